import PyProof.Rows.All
import Wide.All
import OpenK.AllK
import Wide.FinOn
import KE.KStateDown
import KE.GoesEnum
import Lean
import HandS.ForMost
import HandS.Evl
import HandS.Defaults
import HandS.Codes
import HandS.More
import HandS.Deep
import HandS.IsInst
import HandS.Wide
import HandS.Style
import HandS.StrMore
import HandS.TupAny
import HandS.SortRule
import KE.KSortTupAny
import KE.LtData
import HandS.Head0
import HandS.Head1
import HandS.Head2
import HandS.HeadEnd
import HandS.HeadHook1
import HandS.HeadHook2
import HandS.HeadHook3
import HandS.HeadHook4
import PySem.Challenge.RW_dirservice_k11_whole_reading
import HandS.SlotsOwn
import HandS.Property
import OpenK.KMeth
import HandS.ClsMeth
import HandS.ExcOwn
import HandS.Zip
import HandS.MakeKw
import PyProof.InstNe
import KE.KRevSl
import PyProof.ReprRoads
import HandS.Ends
import KE.KCallOwn
import HandS.FStr
import HandS.ExcField
import HandS.ExcSuper
import HandS.TryOnly
import HandS.TryMany
import HandS.SuiteRaise
import KE.KExcSuper
import HandS.HeadNt
import HandS.Star
set_option Elab.async false
set_option linter.all false
set_option maxRecDepth 100000
set_option maxHeartbeats 4000000
namespace My
open PySem PySem.Spec PyProof.Rows L2

/-! ### unions of judgements -/
section
variable {X : Cx}
theorem PE_or {e : Expr} {t u : TE} (h : PE X e t) (k : PE X e u) : PE X e (fun σ H Q => t σ H Q ∨ u σ H Q) :=
  ⟨fun pins s σ H Q I hw => hw.elim (h.run pins s σ H Q I) (k.run pins s σ H Q I)⟩
theorem PS_or {st : Stmt} {t u : TS} (h : PS X st t) (k : PS X st u) : PS X st (fun D σ H => t D σ H ∨ u D σ H) :=
  ⟨fun pins s σ H D I hw => hw.elim (h.run pins s σ H D I) (k.run pins s σ H D I)⟩
theorem PI_or {tg it : Expr} {t u : TI} (h : PI X tg it t) (k : PI X tg it u) : PI X tg it (fun σ H R => t σ H R ∨ u σ H R) :=
  ⟨fun pins s σ H R I hw => hw.elim (h.run pins s σ H R I) (k.run pins s σ H R I)⟩
end

/-! ### the operators, whatever the values are -/
def rAddB : R2 := fun x y H Q => ∃ p q : Bool, x = .bl p ∧ y = .bl q ∧ Q (.int (b2i p + b2i q)) H
theorem op_addB {X : Cx} : OpR X (binaryOp .Add) rAddB := by
  intro pins s σ H x y v u Q I rx ry h
  obtain ⟨p, q, rfl, rfl, hq⟩ := h
  cases rx
  cases ry
  exact add_bool ⟨.int (b2i p + b2i q), H, I.tok _, ⟨_, rfl⟩, hq⟩
def rAddU (K : PySem.W.Frag) : R2 := fun x y H Q => (rI0 fun i j => V.int (i + j)) x y H Q ∨ (∃ i j, x = V.str i ∧ y = .str j ∧ i.length + j.length ≤ sizeLine ∧ Q (.str (i ++ j)) H) ∨ rCat x y H Q ∨ rCatA K x y H Q ∨ rAddB x y H Q
theorem op_Add {X : Cx} {K : PySem.W.Frag} (hK : X.K = K := by rfl) : OpR X (binaryOp .Add) (rAddU K) := hK ▸ op_add.or (op_add_str.or (op_cat.or (op_catA.or op_addB)))
def rMulS : R2 := fun x y H Q => ∃ (c : Nat) (k : Int), x = V.str ⟨#[c]⟩ ∧ y = .int k ∧ -100000 ≤ k ∧ k ≤ 100000 ∧ Q (.str (Txt.mul ⟨#[c]⟩ k)) H
theorem op_mulS {X : Cx} : OpR X (binaryOp .Mult) rMulS := by
  intro pins s σ H x y v u Q I rx ry h
  obtain ⟨c, k, rfl, rfl, h0, h1, q⟩ := h
  obtain ⟨t, rfl⟩ := rx
  obtain ⟨t', rfl⟩ := ry
  refine SB.mul ⟨?_, fun hk _ => ?_, fun hk _ => ?_⟩ fun t' tk => ⟨.str _, H, I.tok _, ⟨_, rfl⟩, q⟩
  · rw [decide_eq_false (by omega), decide_eq_false (by omega)]; rfl
  · show ¬ ((1 : Nat) : Int) > (2 ^ 63 - 1) / k
    have : (1 : Int) ≤ (2 ^ 63 - 1) / k := (Int.le_ediv_iff_mul_le (by omega)).mpr (by omega)
    omega
  · show decide (1 * k.toNat > sizeLine) = false
    have : 100000 ≤ sizeLine := by decide
    exact decide_eq_false (by omega)
def rMulU : R2 := fun x y H Q => (rI CMul fun i j => V.int (i * j)) x y H Q ∨ rRep x y H Q ∨ rMulS x y H Q
theorem op_Mult {X : Cx} : OpR X (binaryOp .Mult) rMulU := op_mul.or (op_rep.or op_mulS)
def rDivU : R2 := fun x y H Q => (rI CDiv fun i j => V.int (i / j)) x y H Q ∨ (rI CDivW fun i j => V.int (i / j)) x y H Q
theorem op_FloorDiv {X : Cx} : OpR X (binaryOp .FloorDiv) rDivU := op_fdiv.or op_fdivW
def rLtU : R2 := fun x y H Q => (rI0 fun i j => V.bl (decide (i < j))) x y H Q ∨ (∃ i j, x = V.str i ∧ y = .str j ∧ Q (.bl (decide (i.cps.toList < j.cps.toList))) H)
theorem cm_Lt {X : Cx} : OpR X (compareOp .Lt) rLtU := op_lt.or op_lt_str
def rLeU : R2 := rI0 fun i j => V.bl (decide (i ≤ j))
theorem cm_LtE {X : Cx} : OpR X (compareOp .LtE) rLeU := op_le
def rGtU : R2 := rI0 fun i j => V.bl (decide (j < i))
theorem cm_Gt {X : Cx} : OpR X (compareOp .Gt) rGtU := op_gt
def rGeU : R2 := rI0 fun i j => V.bl (decide (j ≤ i))
theorem cm_GtE {X : Cx} : OpR X (compareOp .GtE) rGeU := op_ge
def rEqU (K : PySem.W.Frag) : R2 := fun x y H Q => rEq x y H Q ∨ rEqD K x y H Q
theorem cm_Eq {X : Cx} {K : PySem.W.Frag} (hu : X.A.units + 64 < cLine) (hK : X.K = K := by rfl) : OpR X (compareOp .Eq) (rEqU K) := hK ▸ op_eq.or (op_eqD hu)
def rNeU (K : PySem.W.Frag) : R2 := fun x y H Q => rNe x y H Q ∨ rNeD K x y H Q
theorem cm_NotEq {X : Cx} {K : PySem.W.Frag} (hu : X.A.units + 64 < cLine) (hK : X.K = K := by rfl) : OpR X (compareOp .NotEq) (rNeU K) := hK ▸ op_ne.or (op_neD hu)
def rInU (K : PySem.W.Frag) : R2 := fun x y H Q => (∃ (c : Nat) (z : Str), x = V.str ⟨#[c]⟩ ∧ y = .str z ∧ Q (.bl (decide (c ∈ z.cps.toList))) H) ∨ rIn K false x y H Q ∨ rInD K x y H Q
theorem cm_In {X : Cx} {K : PySem.W.Frag} (hu : X.A.units + 65 < cLine) (hK : X.K = K := by rfl) : OpR X (compareOp .In) (rInU K) := hK ▸ op_in_sign.or (op_in_seq.or (op_inD hu))
def rNotInU (K : PySem.W.Frag) : R2 := fun x y H Q => (∃ (c : Nat) (z : Str), x = V.str ⟨#[c]⟩ ∧ y = .str z ∧ Q (.bl (!decide (c ∈ z.cps.toList))) H) ∨ rIn K true x y H Q ∨ rNotInD K x y H Q
theorem cm_NotIn {X : Cx} {K : PySem.W.Frag} (hu : X.A.units + 65 < cLine) (hK : X.K = K := by rfl) : OpR X (compareOp .NotIn) (rNotInU K) := hK ▸ op_notIn_sign.or (op_notIn_seq.or (op_notInD hu))
def rIsU : R2 := fun x y H Q => (y = V.non ∧ Q (.bl (decide (x = .non))) H) ∨ (∃ a b : Bool, x = V.bl a ∧ y = .bl b ∧ Q (.bl (decide (a = b))) H)
theorem cm_Is {X : Cx} : OpR X (compareOp .Is) rIsU := op_isN.or op_isBl
def rIsNotU : R2 := fun x y H Q => (y = V.non ∧ Q (.bl (!decide (x = .non))) H) ∨ (∃ a b : Bool, x = V.bl a ∧ y = .bl b ∧ Q (.bl (!decide (a = b))) H)
theorem cm_IsNot {X : Cx} : OpR X (compareOp .IsNot) rIsNotU := op_notN.or op_notBl
def rSlU (K : PySem.W.Frag) : V → Option Int → Option Int → Hp → VK → Prop := fun x lo hi H Q => rSlS x lo hi H Q ∨ rSlL K x lo hi H Q
theorem sl_any {X : Cx} {K : PySem.W.Frag} (hK : X.K = K := by rfl) : SlR X (rSlU K) := hK ▸ sl_str.or sl_list
theorem ix_any {X : Cx} {K : PySem.W.Frag} (hK : X.K = K := by rfl) : IxR X (rIx K) := hK ▸ ix_seq
def rLenU (K : PySem.W.Frag) : List V → Hp → VK → Prop := fun xs H Q => ∃ x n, xs = [x] ∧ LenV K x H n ∧ Q (.int n) H
theorem call_lenA {X : Cx} {K : PySem.W.Frag} (hK : X.K = K := by rfl) : CallR X (.builtin "len") (rLenU K) := hK ▸ call_len
theorem call_isiA {X : Cx} {K : PySem.W.Frag} (hK : X.K = K := by rfl) : CallR X (.builtin "isinstance") (rIsi K) := hK ▸ call_isi
theorem call_allA {X : Cx} {K : PySem.W.Frag} (hc : X.calm = true := by rfl) (hK : X.K = K := by rfl) : CallR X (.builtin "all") (rAll K) := hK ▸ cr_all hc
theorem call_anyA {X : Cx} {K : PySem.W.Frag} (hc : X.calm = true := by rfl) (hK : X.K = K := by rfl) : CallR X (.builtin "any") (rAny K) := hK ▸ cr_any hc
theorem call_sumA {X : Cx} {K : PySem.W.Frag} (hc : X.calm = true := by rfl) (hK : X.K = K := by rfl) : CallR X (.builtin "sum") (rSum K) := hK ▸ cr_sum hc
def rListU (K : PySem.W.Frag) : List V → Hp → VK → Prop := fun xs H Q => ∃ p ys, xs = [.ref p] ∧ (SqL K H p ys ∨ SqT K H p ys) ∧ ∀ l, H l = none → Q (.ref l) (upd H l (.lst ys))
theorem call_listA {X : Cx} {K : PySem.W.Frag} (hK : X.K = K := by rfl) : CallR X (.type "list") (rListU K) := hK ▸ call_list_of
def rTupU (K : PySem.W.Frag) : List V → Hp → VK → Prop := fun xs H Q => ∃ p ys, xs = [.ref p] ∧ ((SqL K H p ys ∧ ∀ l, H l = none → Q (.ref l) (upd H l (.tup ys))) ∨ (SqT K H p ys ∧ Q (.ref p) H))
theorem call_tupleA {X : Cx} {K : PySem.W.Frag} (hK : X.K = K := by rfl) : CallR X (.type "tuple") (rTupU K) := hK ▸ call_tuple_of
def rJoinU (K : PySem.W.Frag) : V → List V → Hp → VK → Prop := fun x xs H Q => ∃ a p, ∃ ys : List Str, x = .str a ∧ xs = [.ref p] ∧ (SqL K H p (ys.map V.str) ∨ SqT K H p (ys.map V.str)) ∧ (ys.map (·.length)).sum + ys.length * a.length ≤ 16777216 ∧ Q (.str (Txt.join a ys)) H
theorem mt_joinA {X : Cx} {K : PySem.W.Frag} (hK : X.K = K := by rfl) : MtR X "str.join" (rJoinU K) := hK ▸ mt_join
def rSplitU : V → List V → Hp → VK → Prop := fun x xs H Q => ∃ a b, x = .str a ∧ xs = [.str b] ∧ (b.length == 0) = false ∧ a.length + 2 ≤ sizeLine ∧ rNewStrs (Txt.split a b) H Q
theorem mt_splitA {X : Cx} : MtR X "str.split" rSplitU := mt_split
def rLowerU : V → List V → Hp → VK → Prop := fun x xs H Q => ∃ a, x = .str a ∧ xs = [] ∧ a.length ≤ 5592405 ∧ Q (.str (Txt.lower a)) H
theorem mt_lowerA {X : Cx} : MtR X "str.lower" rLowerU := mt_lower
def rUpperU : V → List V → Hp → VK → Prop := fun x xs H Q => ∃ a, x = .str a ∧ xs = [] ∧ a.length ≤ 5592405 ∧ Q (.str (Txt.upper a)) H
theorem mt_upperA {X : Cx} : MtR X "str.upper" rUpperU := mt_upper
def rRemPreU : V → List V → Hp → VK → Prop := fun x xs H Q => ∃ a b, x = .str a ∧ xs = [.str b] ∧ a.length ≤ sizeLine ∧ Q (.str (Txt.removeprefix a b)) H
theorem mt_removeprefixA {X : Cx} : MtR X "str.removeprefix" rRemPreU := mt_removeprefix
def rIntU : List V → Hp → VK → Prop := fun xs H Q => ((∃ i, xs = [V.int i] ∧ Q (.int i) H) ∨ ∃ k, xs = [V.bl k] ∧ Q (.int (if k then 1 else 0)) H) ∨ (∃ a n, xs = [V.str a] ∧ PySem.intText? a = some n ∧ a.length ≤ 640 ∧ Q (.int n) H)
theorem call_intA {X : Cx} : CallR X (.type "int") rIntU := call_int1.or call_int_str
def rStripU : V → List V → Hp → VK → Prop := fun x xs H Q => ∃ a b, x = .str a ∧ xs = [.str b] ∧ a.length ≤ sizeLine ∧ Q (.str (Txt.stripChars a b)) H
theorem mt_stripA {X : Cx} : MtR X "str.strip" rStripU := mt_stripChars
def rFindU : V → List V → Hp → VK → Prop := fun x xs H Q => (∃ a b, x = .str a ∧ xs = [.str b] ∧ Q (.int (Txt.find a b)) H) ∨ (∃ (a b : Str) (i : Int), x = .str a ∧ xs = [.str b, .int i] ∧ Q (.int (Txt.find3 a b i)) H)
theorem mt_findA {X : Cx} : MtR X "str.find" rFindU := mt_find.or mt_find3
def iAny (K : PySem.W.Frag) (te : TE) : TI := fun σ H R => iList K te σ H R ∨ iTup K te σ H R ∨ iStr te σ H R
theorem pi_any {X : Cx} {K : PySem.W.Frag} {tg e : Expr} {te : TE} (h : PE X e te) (hK : X.K = K := by rfl) : PI X tg e (iAny K te) := hK ▸ PI_or (pi_list h) (PI_or (pi_tup h) (pi_str h))
theorem hu65 {k : Nat} {A : Around} (r : Room k A) : A.units + 65 < cLine := by have := r.un; omega
section
variable {X : Cx}
theorem pe_globI {x : Str} {i : Int} {pos : Pos} (hg : Gl X x) (hm : ∃ t, X.mg x = some (.int i t)) (hd : (x == ("__debug__" : Str)) = false := by decide) : PE X (.Name x pos) (tC (.int i)) := hm.elim fun t h => pe_glob hg h ⟨t, rfl⟩ hd
theorem pe_globS {x z : Str} {pos : Pos} (hg : Gl X x) (hm : ∃ t, X.mg x = some (.str z t)) (hd : (x == ("__debug__" : Str)) = false := by decide) : PE X (.Name x pos) (tC (.str z)) := hm.elim fun t h => pe_glob hg h ⟨t, rfl⟩ hd
theorem pe_globR {x : Str} {a : Addr} {pos : Pos} (hg : Gl X x) (hm : X.mg x = some (.ref a)) (hd : (x == ("__debug__" : Str)) = false := by decide) : PE X (.Name x pos) (tC (.ref a)) := pe_glob hg hm rfl hd
theorem pe_bty {x : Str} {T : String} {pos : Pos} (hg : Gl X x) (hm : X.mg x = none) (hv : bootBuiltins x = some (.type T)) (hn : x ≠ "__name__" := by decide) (hd : (x == ("__debug__" : Str)) = false := by decide) : PE X (.Name x pos) (tC (.ty T)) := pe_bltn hg hm hv rfl hn hd
end
section
variable {X : Cx} {K : PySem.W.Frag} {o e : Expr} {es : List Expr} {to : TE} {t : TA} {name : Str} {apos cpos : Pos} {T id : String} {r : V → List V → Hp → VK → Prop}
theorem pe_bm0K (pa : PlainAttrs T) (slot : Slot T name id) (hty : typeOf (.builtin id) = pure (.type "method_descriptor")) (hm : MtR X id r) (ho : PE X o to)
    (hK : X.K = K := by rfl) (hbase : attributeBase o name X.env (eval o X.env) = eval o X.env := by rfl) (hline : (apos.endLine == cpos.line) = true := by rfl) : PE X (.Call (.Attribute o name apos) [] [] cpos) (tBM0 K T r to) := hK ▸ pe_bm0 pa slot hty hm ho hbase hline
theorem pe_bmK (pa : PlainAttrs T) (slot : Slot T name id) (hty : typeOf (.builtin id) = pure (.type "method_descriptor")) (hm : MtR X id r) (ho : PE X o to) (ha : PA X (e :: es) t)
    (hK : X.K = K := by rfl) (hbase : attributeBase o name X.env (eval o X.env) = eval o X.env := by rfl)
    (hfew : ((backTo cpos (starEach (e :: es) X.env)).all (fun x => !x.1) && (backToKw cpos (keywordEach [] X.env)).all (fun x => x.1.isSome)
      && decide ((e :: es).length + ([] : List Keyword).length + (if ([] : List Keyword).isEmpty then 0 else 1) < 30)) = true := by rfl)
    (hline : (apos.endLine == cpos.line) = true := by rfl) (hs : starEach (e :: es) X.env = (false, eval e X.env) :: starEach es X.env := by rfl) (hplain : (backTo cpos (starEach es X.env)).any (·.1) = false := by rfl) :
    PE X (.Call (.Attribute o name apos) (e :: es) [] cpos) (tBM K T r to t) := hK ▸ pe_bm pa slot hty hm ho ha hbase hfew hline hs hplain
theorem pg_tupK {ts : List Expr} {k : Nat} {tg : TGs} {n : Nat} {pos : Pos} (hc : X.calm = true) (h : PGs X ts tg)
    (hK : X.K = K := by rfl) (hn : (assignEach ts X.env).length = n := by rfl) (hst : (assignEach ts X.env).findIdx? (·.1) = none := by rfl) : PG X (.Tuple ts k pos) (gTup K n tg) := hK ▸ pg_tup hc h hn hst
end
/-! ### a def that is called by its name -/
structure Cal (P : Program) (w : World) (K : PySem.W.Frag) (mg : Str → Option Value) (base : Heap) (k : Nat) (x : Str) (ps : List Str) (sp : Sp) : Prop where
  ex : ∃ f fd, FnOk P w K mg base CX0 k f fd ps sp ∧ mg x = some (.ref f) ∧ PySem.W.keepIn K (.ref f) = true ∧ Binds K fd ps [] ∧ ∃ oc od osl, K.lookup f = some ⟨oc, od, .func fd, osl⟩
theorem pe_callC {X : Cx} {k : Nat} {x : Str} {ps : List Str} {sp : Sp} {e : Expr} {es : List Expr} {t : TA} {p pos : Pos} (C : Cal X.prog X.w X.K X.mg X.base k x ps sp) (hr : Room k X.A) (hg : Gl X x) (ha : PA X (e :: es) t)
    (hdb : (x == ("__debug__" : Str)) = false := by decide) (he : starEach (e :: es) X.env = (false, eval e X.env) :: starEach es X.env := by rfl) (hpl : (backTo pos (starEach es X.env)).any (·.1) = false := by rfl) : PE X (.Call (.Name x p) (e :: es) [] pos) (tCall sp [] E0 t) := by
  obtain ⟨f, fd, F, hm, hk, hb, _⟩ := C.ex
  exact pe_call F hr hg hm hk hb .nil pass0 ha hdb he hpl
theorem Cal.mono {P : Program} {w : World} {K : PySem.W.Frag} {mg : Str → Option Value} {base : Heap} {k j : Nat} {x : Str} {ps : List Str} {sp : Sp} (C : Cal P w K mg base k x ps sp) (h : k ≤ j) : Cal P w K mg base j x ps sp := by
  obtain ⟨f, fd, F, r⟩ := C.ex
  exact ⟨f, fd, F.mono h, r⟩

theorem Paired_imp {α β : Type} {F G : α → β → Prop} (h : ∀ a b, F a b → G a b) : ∀ {xs : List α} {ys : List β}, Paired F xs ys → Paired G xs ys
  | _, _, .nil => .nil
  | _, _, .cons a b => .cons (h _ _ a) (Paired_imp h b)
/-! ### heaps to come: what may change (M), what holds of it (J) -/
def pres (M : Addr → Prop) (H H' : Hp) : Prop := ∀ a o, ¬ M a → H a = some o → H' a = some o
theorem pres.refl {M : Addr → Prop} (H : Hp) : pres M H H := fun _ _ _ h => h
theorem pres.trans {M : Addr → Prop} {H H1 H2 : Hp} (a : pres M H H1) (b : pres M H1 H2) : pres M H H2 := fun x o m h => b x o m (a x o m h)
theorem pres.ex {M : Addr → Prop} {H H1 : Hp} (a : Evl.Ex H H1) : pres M H H1 := fun x o _ h => a x o h
theorem pres.upd {M : Addr → Prop} {H : Hp} {l : Addr} {o : HO} (m : M l) : pres M H (upd H l o) := fun x o' mx h => by
  have ne : x ≠ l := fun e => mx (by rw [e]; exact m)
  rw [upd_ne ne]
  exact h
theorem pres.wider {M M' : Addr → Prop} (w : ∀ a, M a → M' a) {H H1 : Hp} (a : pres M H H1) : pres M' H H1 := fun x o m h => a x o (fun z => m (w x z)) h
/-- M: the addresses that may change; J n: what holds of them while n draws may still come -/
structure Rel where
  M : Addr → Prop
  J : Nat → Hp → Prop
  alive : ∀ {n H a}, J n H → M a → H a ≠ none
  loc : ∀ {n H H'}, J n H → (∀ a, M a → H' a = H a) → J n H'
  dec : ∀ {n m H}, J n H → m ≤ n → J m H
theorem Rel.mono (R : Rel) {n : Nat} {H H' : Hp} (j : R.J n H) (e : Evl.Ex H H') : R.J n H' := R.loc j fun a m => by
  cases h : H a with
  | none => exact absurd h (R.alive j m)
  | some o => exact e a o h
theorem Rel.put (R : Rel) {n : Nat} {H : Hp} {p : Addr} {o : HO} (j : R.J n H) (m : ¬ R.M p) : R.J n (upd H p o) := R.loc j fun a ma => upd_ne fun e => m (by rw [← e]; exact ma)
/-- H1 is to come behind H, n draws may come from there on -/
def Rel.ok (R : Rel) (n : Nat) (H H1 : Hp) : Prop := R.J n H1 ∧ pres R.M H H1
theorem Rel.refl (R : Rel) {n : Nat} {H H1 : Hp} (e : R.ok n H H1) : R.ok n H1 H1 := ⟨e.1, pres.refl H1⟩
theorem Rel.self (R : Rel) {n : Nat} {H : Hp} (e : R.J n H) : R.ok n H H := ⟨e, pres.refl H⟩
theorem Rel.trans (R : Rel) {n m : Nat} {H H1 H2 : Hp} (a : R.ok n H H1) (b : R.ok m H1 H2) : R.ok m H H2 := ⟨b.1, a.2.trans b.2⟩
theorem Rel.ex (R : Rel) {n : Nat} {H H1 : Hp} (j : R.J n H) (e : Evl.Ex H H1) : R.ok n H H1 := ⟨R.mono j e, pres.ex e⟩
theorem Rel.new (R : Rel) {n : Nat} {H : Hp} {p : Addr} {o : HO} (j : R.J n H) (h : H p = none) : R.ok n H (upd H p o) := R.ex j (Evl.Ex.new h)
theorem Rel.fresh (R : Rel) {n : Nat} {H : Hp} {p : Addr} (j : R.J n H) (h : H p = none) : ¬ R.M p := fun m => R.alive j m h
/-- nothing changes -/
def exR : Rel := ⟨fun _ => False, fun _ _ => True, fun _ m => m.elim, fun _ _ => trivial, fun _ _ => trivial⟩
theorem exR_of {n : Nat} {H H' : Hp} (e : Evl.Ex H H') : exR.ok n H H' := ⟨trivial, pres.ex e⟩
theorem exR_ex {n : Nat} {H H' : Hp} (e : exR.ok n H H') : Evl.Ex H H' := fun a o h => e.2 a o (fun z => z) h
theorem exR_to (R : Rel) {n m : Nat} {H H' : Hp} (j : R.J n H) (e : exR.ok m H H') : R.ok n H H' := R.ex j (exR_ex e)
/-- the list at D changes, too: it holds xs, it holds some list -/
def Rel.at (R : Rel) (D : Addr) (xs : List V) : Rel := ⟨fun a => R.M a ∨ a = D, fun n H => R.J n H ∧ H D = some (.lst xs), fun j m => m.elim (fun m => R.alive j.1 m) (fun e => by rw [e, j.2]; exact fun z => nomatch z), fun j e => ⟨R.loc j.1 fun a m => e a (.inl m), (e D (.inr rfl)).trans j.2⟩, fun j h => ⟨R.dec j.1 h, j.2⟩⟩
def Rel.off (R : Rel) (D : Addr) : Rel := ⟨fun a => R.M a ∨ a = D, fun n H => R.J n H ∧ ∃ xs, H D = some (.lst xs), fun j m => m.elim (fun m => R.alive j.1 m) (fun e => by obtain ⟨xs, h⟩ := j.2; rw [e, h]; exact fun z => nomatch z), fun j e => ⟨R.loc j.1 fun a m => e a (.inl m), j.2.elim fun xs h => ⟨xs, (e D (.inr rfl)).trans h⟩⟩, fun j h => ⟨R.dec j.1 h, j.2⟩⟩
/-- a property of a value that stays true while all but M stays, whatever M is -/
structure SP where
  P : (Addr → Prop) → V → Hp → Prop
  st : ∀ {M v H H'}, pres M H H' → P M v H → P M v H'
  lift : ∀ {M M' v H}, (∀ a, M' a → M a ∨ H a = none) → P M v H → P M' v H
/-- the value is v -/
def is (v : V) : SP := ⟨fun _ x _ => x = v, fun _ h => h, fun _ h => h⟩
/-- a property of the value alone -/
def sat (G : V → Prop) : SP := ⟨fun _ x _ => G x, fun _ h => h, fun _ h => h⟩
section
variable {M M' : Addr → Prop} {K : PySem.W.Frag} {H H' : Hp}
/-- a list, a tuple that stays: tracked outside M, or written -/
def SqM (K : PySem.W.Frag) (M : Addr → Prop) (H : Hp) (p : Addr) (xs : List V) : Prop := (Rd H p (.lst xs) ∧ ¬ M p) ∨ ∀ H', SqL K H' p xs
def StM (K : PySem.W.Frag) (M : Addr → Prop) (H : Hp) (p : Addr) (xs : List V) : Prop := (Rd H p (.tup xs) ∧ ¬ M p) ∨ ∀ H', SqT K H' p xs
theorem rd_st {p : Addr} {o : HO} (e : pres M H H') (m : ¬ M p) (h : Rd H p o) : Rd H' p o := by
  rcases h with h | ⟨w, h⟩
  · exact .inl (e p _ m h)
  · exact .inr ⟨w, e p _ m h⟩
theorem rd_lift {p : Addr} {o : HO} (w : ∀ a, M' a → M a ∨ H a = none) (h : Rd H p o) (m : ¬ M p) : ¬ M' p := fun z => (w p z).elim m fun n => by
  rcases h with h | ⟨_, h⟩ <;> rw [n] at h <;> cases h
theorem SqM.sq {p : Addr} {xs : List V} (h : SqM K M H p xs) : SqL K H p xs := h.elim (fun a => .inl a.1) fun a => a H
theorem StM.sq {p : Addr} {xs : List V} (h : StM K M H p xs) : SqT K H p xs := h.elim (fun a => .inl a.1) fun a => a H
theorem SqM.st {p : Addr} {xs : List V} (e : pres M H H') (h : SqM K M H p xs) : SqM K M H' p xs := h.imp (fun a => ⟨rd_st e a.2 a.1, a.2⟩) id
theorem StM.st {p : Addr} {xs : List V} (e : pres M H H') (h : StM K M H p xs) : StM K M H' p xs := h.imp (fun a => ⟨rd_st e a.2 a.1, a.2⟩) id
theorem SqM.lift {p : Addr} {xs : List V} (w : ∀ a, M' a → M a ∨ H a = none) (h : SqM K M H p xs) : SqM K M' H p xs := h.imp (fun a => ⟨a.1, rd_lift w a.1 a.2⟩) id
theorem StM.lift {p : Addr} {xs : List V} (w : ∀ a, M' a → M a ∨ H a = none) (h : StM K M H p xs) : StM K M' H p xs := h.imp (fun a => ⟨a.1, rd_lift w a.1 a.2⟩) id
theorem SqM.of {p : Addr} {xs : List V} (h : H p = some (.lst xs)) (m : ¬ M p) : SqM K M H p xs := .inl ⟨.inl h, m⟩
theorem StM.of {p : Addr} {xs : List V} (h : H p = some (.tup xs)) (m : ¬ M p) : StM K M H p xs := .inl ⟨.inl h, m⟩
/-- a list of the run's own that stays -/
def LtM (M : Addr → Prop) (H : Hp) (p : Addr) (xs : List V) : Prop := H p = some (.lst xs) ∧ ¬ M p
theorem LtM.sqm {p : Addr} {xs : List V} (h : LtM M H p xs) : SqM K M H p xs := .of h.1 h.2
theorem LtM.sq {p : Addr} {xs : List V} (h : LtM M H p xs) : SqL K H p xs := .inl (.inl h.1)
theorem LtM.st {p : Addr} {xs : List V} (e : pres M H H') (h : LtM M H p xs) : LtM M H' p xs := ⟨e p _ h.2 h.1, h.2⟩
theorem LtM.lift {p : Addr} {xs : List V} (w : ∀ a, M' a → M a ∨ H a = none) (h : LtM M H p xs) : LtM M' H p xs := ⟨h.1, rd_lift w (.inl h.1) h.2⟩
end
/-- a list, a tuple whose items have G -/
def lstG (G : List V → Prop) : SP := ⟨fun M x H => ∃ p xs, x = .ref p ∧ LtM M H p xs ∧ G xs, fun e ⟨p, xs, a, h, g⟩ => ⟨p, xs, a, h.st e, g⟩, fun w ⟨p, xs, a, h, g⟩ => ⟨p, xs, a, h.lift w, g⟩⟩
def tupG (K : PySem.W.Frag) (G : List V → Prop) : SP := ⟨fun M x H => ∃ p xs, x = .ref p ∧ StM K M H p xs ∧ G xs, fun e ⟨p, xs, a, h, g⟩ => ⟨p, xs, a, h.st e, g⟩, fun w ⟨p, xs, a, h, g⟩ => ⟨p, xs, a, h.lift w, g⟩⟩
/-- .. whose items each have the property told by ys -/
def lstP {α : Type} (pe : α → SP) (ys : List α) : SP := ⟨fun M x H => ∃ p xs, x = .ref p ∧ LtM M H p xs ∧ Paired (fun v y => (pe y).P M v H) xs ys, fun e ⟨p, xs, a, h, g⟩ => ⟨p, xs, a, h.st e, Paired_imp (fun _ _ z => (pe _).st e z) g⟩, fun w ⟨p, xs, a, h, g⟩ => ⟨p, xs, a, h.lift w, Paired_imp (fun _ _ z => (pe _).lift w z) g⟩⟩
def tupP (K : PySem.W.Frag) {α : Type} (pe : α → SP) (ys : List α) : SP := ⟨fun M x H => ∃ p xs, x = .ref p ∧ StM K M H p xs ∧ Paired (fun v y => (pe y).P M v H) xs ys, fun e ⟨p, xs, a, h, g⟩ => ⟨p, xs, a, h.st e, Paired_imp (fun _ _ z => (pe _).st e z) g⟩, fun w ⟨p, xs, a, h, g⟩ => ⟨p, xs, a, h.lift w, Paired_imp (fun _ _ z => (pe _).lift w z) g⟩⟩
/-- both, either, some -/
def SP.and (p q : SP) : SP := ⟨fun M v H => p.P M v H ∧ q.P M v H, fun e h => ⟨p.st e h.1, q.st e h.2⟩, fun w h => ⟨p.lift w h.1, q.lift w h.2⟩⟩
def SP.or (p q : SP) : SP := ⟨fun M v H => p.P M v H ∨ q.P M v H, fun e h => h.imp (p.st e) (q.st e), fun w h => h.imp (p.lift w) (q.lift w)⟩
def SP.ex {α : Type} (p : α → SP) : SP := ⟨fun M v H => ∃ a, (p a).P M v H, fun e ⟨a, h⟩ => ⟨a, (p a).st e h⟩, fun w ⟨a, h⟩ => ⟨a, (p a).lift w h⟩⟩
/-- facts by M at H are carried over to M' at H' -/
structure Ext0 (M : Addr → Prop) (H : Hp) (M' : Addr → Prop) (H' : Hp) : Prop where
  w : ∀ a, M' a → M a ∨ H a = none
  pr : pres M' H H'
theorem Ext0.get {M M' : Addr → Prop} {H H' : Hp} (s : Ext0 M H M' H') {p : SP} {v : V} (h : p.P M v H) : p.P M' v H' := p.st s.pr (p.lift s.w h)
theorem Ext0.of {R : Rel} {n : Nat} {H H' : Hp} (e : R.ok n H H') : Ext0 R.M H R.M H' := ⟨fun _ m => .inl m, e.2⟩
/-- a relation R' and a heap H' to which what is known by R at H is carried over -/
structure Ext (R : Rel) (H : Hp) (R' : Rel) (H' : Hp) : Prop where
  w : ∀ a, R'.M a → R.M a ∨ H a = none
  up : ∀ a, R.M a → R'.M a
  jr : ∀ n H1, R'.J n H1 → R.J n H1
  put : ∀ n m H1 a o, R.M a → R'.J n H1 → R.J m (upd H1 a o) → R'.J m (upd H1 a o)
  pr : pres R'.M H H'
theorem Ext.get {R R' : Rel} {H H' : Hp} (s : Ext R H R' H') {p : SP} {v : V} (h : p.P R.M v H) : p.P R'.M v H' := p.st s.pr (p.lift s.w h)
theorem Ext.to0 {R R' : Rel} {H H' : Hp} (s : Ext R H R' H') : Ext0 R.M H R'.M H' := ⟨s.w, s.pr⟩
theorem Ext.refl {R : Rel} {n : Nat} {H H' : Hp} (e : R.ok n H H') : Ext R H R H' := ⟨fun _ m => .inl m, fun _ m => m, fun _ _ h => h, fun _ _ _ _ _ _ _ h => h, e.2⟩
theorem Ext.step {R R' : Rel} {n : Nat} {H H' H2 : Hp} (s : Ext R H R' H') (e : R'.ok n H' H2) : Ext R H R' H2 := ⟨s.w, s.up, s.jr, s.put, s.pr.trans e.2⟩
theorem Ext.pre {R R' : Rel} {n : Nat} {H0 H H' : Hp} (e : R.ok n H0 H) (s : Ext R H R' H') : Ext R H0 R' H' := ⟨fun a m => (s.w a m).imp id fun n => by
  cases h : H0 a with
  | none => rfl
  | some o => exact absurd n (by
      by_cases m0 : R.M a
      · exact R.alive e.1 m0
      · rw [e.2 a o m0 h]
        exact fun z => nomatch z), s.up, s.jr, s.put, (e.2.wider s.up).trans s.pr⟩
theorem Ext.at {R : Rel} {n m : Nat} {H H' : Hp} {D : Addr} {acc : List V} (j : R.J n H) (e : R.ok m H H') (hD : H D = none) (h : H' D = some (.lst acc)) : Ext R H (R.at D acc) H' := by
  refine ⟨fun a m => m.imp id fun z => by rw [z]; exact hD, fun a m => .inl m, fun _ _ j => j.1, fun _ _ H1 a o m j1 j' => ⟨j', ?_⟩, e.2.wider fun a m => .inl m⟩
  have ne : D ≠ a := fun z => R.alive j m (by rw [← z]; exact hD)
  rw [upd_ne ne]
  exact j1.2
section
variable {R : Rel} {n m k : Nat}
/-! ### what evaluates to what: from n draws that may come to m -/
def EvP (R : Rel) (n m : Nat) (te : TE) (σ : L2.St) (H : Hp) (p : SP) : Prop := ∀ H1, R.ok n H H1 → ∀ Q : VK, (∀ v H2, R.ok m H1 H2 → p.P R.M v H2 → Q v H2) → te σ H1 Q
def EvT (R : Rel) (n m : Nat) (tt : TT) (σ : L2.St) (H : Hp) (G : Bool → Prop) : Prop := ∀ H1, R.ok n H H1 → ∀ Q : Bool → Hp → Prop, (∀ b H2, R.ok m H1 H2 → G b → Q b H2) → tt σ H1 Q
def EvA (R : Rel) (n m : Nat) (ta : TA) (σ : L2.St) (H : Hp) (ps : List SP) : Prop := ∀ H1, R.ok n H H1 → ∀ Q : List V → Hp → Prop, (∀ vs H2, R.ok m H1 H2 → Paired (fun v (p : SP) => p.P R.M v H2) vs ps → Q vs H2) → ta σ H1 Q
def EvO (R : Rel) (n m : Nat) (to : TO) (σ : L2.St) (H : Hp) (G : Option Int → Prop) : Prop := ∀ H1, R.ok n H H1 → ∀ Q : Option Int → Hp → Prop, (∀ o H2, R.ok m H1 H2 → G o → Q o H2) → to σ H1 Q
/-- operations on values (no draw) -/
def RV (R : Rel) (r : R2) (x y : V) (H : Hp) (p : SP) : Prop := ∀ n, R.J n H → ∀ Q : VK, (∀ z H2, R.ok n H H2 → p.P R.M z H2 → Q z H2) → r x y H Q
def RU (R : Rel) (r : V → Hp → VK → Prop) (x : V) (H : Hp) (p : SP) : Prop := ∀ n, R.J n H → ∀ Q : VK, (∀ z H2, R.ok n H H2 → p.P R.M z H2 → Q z H2) → r x H Q
def RC (R : Rel) (r : List V → Hp → VK → Prop) (vs : List V) (H : Hp) (p : SP) : Prop := ∀ n, R.J n H → ∀ Q : VK, (∀ z H2, R.ok n H H2 → p.P R.M z H2 → Q z H2) → r vs H Q
def RM (R : Rel) (r : V → List V → Hp → VK → Prop) (x : V) (vs : List V) (H : Hp) (p : SP) : Prop := ∀ n, R.J n H → ∀ Q : VK, (∀ z H2, R.ok n H H2 → p.P R.M z H2 → Q z H2) → r x vs H Q
def RS (R : Rel) (r : V → Option Int → Option Int → Hp → VK → Prop) (x : V) (lo hi : Option Int) (H : Hp) (p : SP) : Prop := ∀ n, R.J n H → ∀ Q : VK, (∀ z H2, R.ok n H H2 → p.P R.M z H2 → Q z H2) → r x lo hi H Q

variable {K : PySem.W.Frag} {σ : L2.St} {H H' : Hp} {ta tb tc te : TE} {t u : TT} {x y z v : V} {r : R2} {p q s : SP}
theorem EvP.mono {j : Nat} (e : R.ok j H H') (h : EvP R n m te σ H p) : EvP R n m te σ H' p := fun H1 a Q k => h H1 (R.trans e a) Q k
theorem EvT.mono {j : Nat} {G : Bool → Prop} (e : R.ok j H H') (h : EvT R n m t σ H G) : EvT R n m t σ H' G := fun H1 a Q k => h H1 (R.trans e a) Q k
theorem EvP.imp (h : EvP R n m te σ H p) (k : ∀ v H1, R.ok m H H1 → p.P R.M v H1 → q.P R.M v H1) : EvP R n m te σ H q := fun H1 a Q f => h H1 a Q fun v H2 r2 hv => f v H2 r2 (k v H2 (R.trans a r2) hv)
theorem EvT.imp {G G' : Bool → Prop} (h : EvT R n m t σ H G) (k : ∀ b, G b → G' b) : EvT R n m t σ H G' := fun H1 a Q f => h H1 a Q fun v H2 r2 hv => f v H2 r2 (k v hv)
/-- fewer draws may come -/
theorem EvP.fewer {m' : Nat} (h : EvP R n m te σ H p) (hm : m' ≤ m) : EvP R n m' te σ H p := fun H1 a Q f => h H1 a Q fun v H2 r2 hv => f v H2 ⟨R.dec r2.1 hm, r2.2⟩ hv
theorem EvP.more {n' : Nat} (h : EvP R n m te σ H p) (hn : n ≤ n') : EvP R n' m te σ H p := fun H1 a Q f => h H1 ⟨R.dec a.1 hn, a.2⟩ Q f
theorem ev_is (h : EvP R n m te σ H (is v)) (e : v = z) : EvP R n m te σ H (is z) := by
  subst e
  exact h
theorem ev_var {i : Nat} (h : σ[i]? = some (some v)) : EvP R n n (tVar i) σ H (is v) := fun H1 e _ k => ⟨v, h, k v H1 (R.refl e) rfl⟩
theorem ev_varP {i : Nat} (h : σ[i]? = some (some v)) (hp : p.P R.M v H) : EvP R n n (tVar i) σ H p := fun H1 e _ k => ⟨v, h, k v H1 (R.refl e) (p.st e.2 hp)⟩
theorem ev_c : EvP R n n (tC v) σ H (is v) := fun H1 e _ k => k v H1 (R.refl e) rfl
theorem ev_cP (hp : p.P R.M v H) : EvP R n n (tC v) σ H p := fun H1 e _ k => k v H1 (R.refl e) (p.st e.2 hp)
theorem ev_op (ha : EvP R n m ta σ H p) (hb : EvP R m k tb σ H q) (hr : ∀ x y H1, R.ok k H H1 → p.P R.M x H1 → q.P R.M y H1 → RV R r x y H1 s) : EvP R n k (tOp r ta tb) σ H s := fun H1 e Q f =>
  ha H1 e _ fun x H2 e2 hx => hb H2 (R.trans e e2) _ fun y H3 e3 hy => hr x y H3 (R.trans (R.trans e e2) e3) (p.st e3.2 hx) hy _ e3.1 Q fun z H4 e4 hz => f z H4 (R.trans (R.trans e2 e3) e4) hz
/-- both operands known -/
theorem ev_op2 (ha : EvP R n m ta σ H (is x)) (hb : EvP R m k tb σ H (is y)) (hr : ∀ H1, R.ok k H H1 → RV R r x y H1 s) : EvP R n k (tOp r ta tb) σ H s := ev_op ha hb fun a b H1 e ea eb => by
  have ea : a = x := ea
  have eb : b = y := eb
  subst ea; subst eb
  exact hr H1 e
theorem ev_un {ru : V → Hp → VK → Prop} (ha : EvP R n m ta σ H p) (hr : ∀ x H1, R.ok m H H1 → p.P R.M x H1 → RU R ru x H1 s) : EvP R n m (tUn ru ta) σ H s := fun H1 e Q f =>
  ha H1 e _ fun x H2 e2 hx => hr x H2 (R.trans e e2) hx _ e2.1 Q fun z H3 e3 hz => f z H3 (R.trans e2 e3) hz
theorem ev_neg {i : Int} (ha : EvP R n m ta σ H (is (.int i))) : EvP R n m (tUn (rU fun i => .int (-i)) ta) σ H (is (.int (-i))) := ev_un ha fun x H1 e hx _ j Q k => ⟨i, hx, k _ H1 (R.self j) rfl⟩
theorem ea_nil : EvA R n n tNil σ H [] := fun H1 e _ k => k [] H1 (R.refl e) .nil
theorem ea_cons {tr : TA} {ps : List SP} (h : EvP R n m ta σ H p) (hr : EvA R m k tr σ H ps) : EvA R n k (tCons ta tr) σ H (p :: ps) := fun H1 e _ f =>
  h H1 e _ fun v H2 e2 hv => hr H2 (R.trans e e2) _ fun vs H3 e3 hvs => f (v :: vs) H3 (R.trans e2 e3) (.cons (p.st e3.2 hv) hvs)
theorem ev_cb {rc : List V → Hp → VK → Prop} {tar : TA} {ps : List SP} (h : EvA R n m tar σ H ps) (hr : ∀ vs H1, R.ok m H H1 → Paired (fun v (p : SP) => p.P R.M v H1) vs ps → RC R rc vs H1 s) : EvP R n m (tCB rc tar) σ H s := fun H1 e Q f =>
  h H1 e _ fun vs H2 e2 hv => hr vs H2 (R.trans e e2) hv _ e2.1 Q fun z H3 e3 hz => f z H3 (R.trans e2 e3) hz
theorem ev_bm {T : String} {rm : V → List V → Hp → VK → Prop} {tar : TA} {ps : List SP} (ho : EvP R n m te σ H p) (hT : ∀ x H1, R.ok m H H1 → p.P R.M x H1 → tyV K T x H1) (h : EvA R m k tar σ H ps)
    (hr : ∀ x vs H1, R.ok k H H1 → p.P R.M x H1 → Paired (fun v (p : SP) => p.P R.M v H1) vs ps → RM R rm x vs H1 s) : EvP R n k (tBM K T rm te tar) σ H s := fun H1 e Q f =>
  ho H1 e _ fun x H2 e2 hx => ⟨hT x H2 (R.trans e e2) hx, h H2 (R.trans e e2) _ fun vs H3 e3 hv => hr x vs H3 (R.trans (R.trans e e2) e3) (p.st e3.2 hx) hv _ e3.1 Q fun z H4 e4 hz => f z H4 (R.trans (R.trans e2 e3) e4) hz⟩
theorem eo_none : EvO R n n tNoPart σ H (fun o => o = none) := fun H1 e _ k => k none H1 (R.refl e) rfl
theorem eo_some {i : Int} (h : EvP R n m te σ H (is (.int i))) : EvO R n m (tPart te) σ H (fun o => o = some i) := fun H1 e _ k => h H1 e _ fun v H2 e2 hv => ⟨i, hv, k _ H2 e2 rfl⟩
theorem ev_sl {j : Nat} {rs : V → Option Int → Option Int → Hp → VK → Prop} {tl th : TO} {lo hi : Option Int} (ha : EvP R n m te σ H p) (hl : EvO R m k tl σ H (fun o => o = lo)) (hh : EvO R k j th σ H (fun o => o = hi)) (hr : ∀ x H1, R.ok j H H1 → p.P R.M x H1 → RS R rs x lo hi H1 s) : EvP R n j (tSl rs te tl th) σ H s := fun H1 e Q f =>
  ha H1 e _ fun x H2 e2 hx => hl H2 (R.trans e e2) _ fun o H3 e3 ho => hh H3 (R.trans (R.trans e e2) e3) _ fun o' H4 e4 ho' => by
    subst ho; subst ho'
    exact hr x H4 (R.trans (R.trans (R.trans e e2) e3) e4) (p.st (R.trans e3 e4).2 hx) _ e4.1 Q fun z H5 e5 hz => f z H5 (R.trans (R.trans (R.trans e2 e3) e4) e5) hz
/-! ### tests -/
theorem et_test {b : Bool} (h : EvP R n m te σ H (is (.bl b))) : EvT R n m (tTest te) σ H (· = b) := fun H1 e _ k => h H1 e _ fun v H2 e2 hv => ⟨b, hv, k b H2 e2 rfl⟩
theorem et_B {b : Bool} (h : EvP R n m te σ H (is (.bl b))) : EvT R n m (tB te) σ H (· = b) := fun H1 e _ k => h H1 e _ fun v H2 e2 hv => ⟨b, hv, k b H2 e2 rfl⟩
/-- a test whose outcome is open -/
theorem et_testG {G : Bool → Prop} (h : EvP R n m te σ H (sat fun v => ∃ b, v = .bl b ∧ G b)) : EvT R n m (tTest te) σ H G := fun H1 e _ k => h H1 e _ fun v H2 e2 ⟨b, hv, g⟩ => ⟨b, hv, k b H2 e2 g⟩
theorem et_BG {G : Bool → Prop} (h : EvP R n m te σ H (sat fun v => ∃ b, v = .bl b ∧ G b)) : EvT R n m (tB te) σ H G := fun H1 e _ k => h H1 e _ fun v H2 e2 ⟨b, hv, g⟩ => ⟨b, hv, k b H2 e2 g⟩
/-- open outcomes -/
theorem et_andG {G G' : Bool → Prop} (h1 : EvT R n m t σ H G) (h2 : G true → EvT R m k u σ H G') (h3 : G false → G' false) (hk : k ≤ m) : EvT R n k (tAnd t u) σ H G' := fun H1 e Q f => h1 H1 e _ fun c H2 e2 hc => by
  cases c with
  | true =>
    show u σ H2 Q
    exact h2 hc H2 (R.trans e e2) Q fun d H3 e3 hd => f d H3 (R.trans e2 e3) hd
  | false =>
    show Q false H2
    exact f false H2 ⟨R.dec e2.1 hk, e2.2⟩ (h3 hc)
theorem et_orG {G G' : Bool → Prop} (h1 : EvT R n m t σ H G) (h2 : G false → EvT R m k u σ H G') (h3 : G true → G' true) (hk : k ≤ m) : EvT R n k (tOr t u) σ H G' := fun H1 e Q f => h1 H1 e _ fun c H2 e2 hc => by
  cases c with
  | true =>
    show Q true H2
    exact f true H2 ⟨R.dec e2.1 hk, e2.2⟩ (h3 hc)
  | false =>
    show u σ H2 Q
    exact h2 hc H2 (R.trans e e2) Q fun d H3 e3 hd => f d H3 (R.trans e2 e3) hd
theorem et_and {a b : Bool} (h1 : EvT R n n t σ H (· = a)) (h2 : a = true → EvT R n n u σ H (· = b)) : EvT R n n (tAnd t u) σ H (· = (a && b)) := et_andG h1 (fun e => by subst e; exact h2 rfl) (fun e => by subst e; rfl) (Nat.le_refl _)
theorem et_or {a b : Bool} (h1 : EvT R n n t σ H (· = a)) (h2 : a = false → EvT R n n u σ H (· = b)) : EvT R n n (tOr t u) σ H (· = (a || b)) := et_orG h1 (fun e => by subst e; exact h2 rfl) (fun e => by subst e; rfl) (Nat.le_refl _)
theorem et_not {a : Bool} (h1 : EvT R n m t σ H (· = a)) : EvT R n m (tNot t) σ H (· = !a) := fun H1 e _ k => h1 H1 e _ fun c H2 e2 hc => k (!c) H2 e2 (congrArg not hc)
theorem et_is {a b : Bool} (h : EvT R n m t σ H (· = a)) (e : a = b) : EvT R n m t σ H (· = b) := by
  subst e
  exact h
theorem ev_andV {a b : Bool} (h1 : EvP R n n ta σ H (is (.bl a))) (h2 : a = true → EvP R n n tb σ H (is (.bl b))) : EvP R n n (tAndV ta tb) σ H (is (.bl (a && b))) := fun H1 e Q k => h1 H1 e _ fun v H2 e2 hv => ⟨a, hv, by
  cases a with
  | true =>
    show tb σ H2 Q
    exact h2 rfl H2 (R.trans e e2) Q fun d H3 e3 hd => k d H3 (R.trans e2 e3) hd
  | false =>
    show Q (.bl false) H2
    exact k _ H2 e2 rfl⟩
theorem ev_orV {a b : Bool} (h1 : EvP R n n ta σ H (is (.bl a))) (h2 : a = false → EvP R n n tb σ H (is (.bl b))) : EvP R n n (tOrV ta tb) σ H (is (.bl (a || b))) := fun H1 e Q k => h1 H1 e _ fun v H2 e2 hv => ⟨a, hv, by
  cases a with
  | true =>
    show Q (.bl true) H2
    exact k _ H2 e2 rfl
  | false =>
    show tb σ H2 Q
    exact h2 rfl H2 (R.trans e e2) Q fun d H3 e3 hd => k d H3 (R.trans e2 e3) hd⟩
theorem ev_notV {a : Bool} (h1 : EvP R n m ta σ H (is (.bl a))) : EvP R n m (tNotV ta) σ H (is (.bl (!a))) := fun H1 e _ k => h1 H1 e _ fun v H2 e2 hv => ⟨a, hv, k _ H2 e2 rfl⟩
theorem ev_if {G : Bool → Prop} (h : EvT R n m t σ H G) (h1 : G true → EvP R m k ta σ H s) (h2 : G false → EvP R m k tb σ H s) : EvP R n k (tIf t ta tb) σ H s := fun H1 e Q f => h H1 e _ fun b H2 e2 hb => by
  cases b with
  | true =>
    show ta σ H2 Q
    exact h1 hb H2 (R.trans e e2) Q fun d H3 e3 hd => f d H3 (R.trans e2 e3) hd
  | false =>
    show tb σ H2 Q
    exact h2 hb H2 (R.trans e e2) Q fun d H3 e3 hd => f d H3 (R.trans e2 e3) hd
/-- a known test -/
theorem ev_ifB {b : Bool} (h : EvT R n m t σ H (· = b)) (h1 : b = true → EvP R m k ta σ H s) (h2 : b = false → EvP R m k tb σ H s) : EvP R n k (tIf t ta tb) σ H s := ev_if h (fun e => h1 e.symm) (fun e => h2 e.symm)
theorem ev_ifV {b : Bool} {v w : V} (h : EvT R n m t σ H (· = b)) (h1 : b = true → EvP R m k ta σ H (is v)) (h2 : b = false → EvP R m k tb σ H (is w)) : EvP R n k (tIf t ta tb) σ H (is (if b = true then v else w)) := ev_ifB h (fun e => by
  rw [if_pos e]
  exact h1 e) (fun e => by
  rw [if_neg (by rw [e]; decide)]
  exact h2 e)
theorem ev_chain {r' : R2} {a b : Bool} (ha : EvP R n n ta σ H (is x)) (hb : EvP R n n tb σ H (is y)) (hc : EvP R n n tc σ H (is z)) (h1 : ∀ H1, R.ok n H H1 → RV R r x y H1 (is (.bl a))) (h2 : ∀ H1, R.ok n H H1 → RV R r' y z H1 (is (.bl b))) : EvP R n n (tChain r r' ta tb tc) σ H (is (.bl (a && b))) := fun H1 e Q f =>
  ha H1 e _ fun v1 H2 e2 q1 => hb H2 (R.trans e e2) _ fun v2 H3 e3 q2 => by
    have q1 : v1 = x := q1
    have q2 : v2 = y := q2
    subst q1; subst q2
    have e13 := R.trans (R.trans e e2) e3
    refine h1 H3 e13 n e3.1 _ fun w H4 e4 hw => ⟨a, hw, ?_⟩
    cases a with
    | true =>
      show tc σ H4 _
      refine hc H4 (R.trans e13 e4) _ fun v3 H5 e5 q3 => ?_
      have q3 : v3 = z := q3
      subst q3
      exact h2 H5 (R.trans (R.trans e13 e4) e5) n e5.1 Q fun w2 H6 e6 hw2 => f w2 H6 (R.trans (R.trans (R.trans (R.trans e2 e3) e4) e5) e6) hw2
    | false =>
      show Q (.bl false) H4
      exact f _ H4 (R.trans (R.trans e2 e3) e4) rfl
/-- a def is called -/
theorem ev_call {sp : Sp} {tar : TA} {ps : List SP} (h : EvA R n m tar σ H ps) (hs : ∀ vs H1, R.ok m H H1 → Paired (fun v (p : SP) => p.P R.M v H1) vs ps → ∀ Q : VK, (∀ v H2, R.ok k H1 H2 → s.P R.M v H2 → Q v H2) → sp vs H1 Q E0) : EvP R n k (tCall sp [] E0 tar) σ H s := fun H1 e Q f =>
  h H1 e _ fun vs H2 e2 hv => by
    show sp (vs ++ []) H2 Q E0
    rw [List.append_nil]
    exact hs vs H2 (R.trans e e2) hv Q fun v H3 e3 h3 => f v H3 (R.trans e2 e3) h3
/-! ### statements -/
def StF (R : Rel) (n : Nat) (ts : TS) (D : Ends) (σ : L2.St) (H : Hp) : Prop := ∀ H1, R.ok n H H1 → ts D σ H1
variable {D : Ends} {tu tw tz : TS} {g : TG}
theorem StF.run {ts : TS} (h : StF R n ts D σ H) (j : R.J n H) : ts D σ H := h H (R.self j)
theorem StF.mono {ts : TS} {j : Nat} (e : R.ok j H H') (h : StF R n ts D σ H) : StF R n ts D σ H' := fun H1 a => h H1 (R.trans e a)
theorem StF.more {ts : TS} {n' : Nat} (h : StF R n ts D σ H) (hn : n ≤ n') : StF R n' ts D σ H := fun H1 a => h H1 ⟨R.dec a.1 hn, a.2⟩
theorem s_ret (h : EvP R n m te σ H p) (k : ∀ v H1, R.ok m H H1 → p.P R.M v H1 → D.rt v H1) : StF R n (tRet te) D σ H := fun H1 e => h H1 e _ fun v H2 e2 hv => k v H2 (R.trans e e2) hv
theorem s_if {G : Bool → Prop} (h : EvT R n m t σ H G) (h1 : G true → StF R m tu D σ H) (h2 : G false → StF R m tw D σ H) : StF R n (tIfS t tu tw) D σ H := fun H1 e => h H1 e _ fun b H2 e2 hb => by
  cases b with
  | true =>
    show tu D σ H2
    exact h1 hb H2 (R.trans e e2)
  | false =>
    show tw D σ H2
    exact h2 hb H2 (R.trans e e2)
theorem s_ifB {b : Bool} (h : EvT R n m t σ H (· = b)) (h1 : b = true → StF R m tu D σ H) (h2 : b = false → StF R m tw D σ H) : StF R n (tIfS t tu tw) D σ H := s_if h (fun e => h1 e.symm) (fun e => h2 e.symm)
/-- what comes behind a statement -/
theorem s_nx (k : ∀ H1, R.ok n H H1 → D.nx σ H1) : StF R n tNext D σ H := k
/-- x = e, the value known by its property alone: the heap stays -/
theorem s_asgG {i : Nat} {G : V → Prop} (h : EvP R n m te σ H (sat G)) (k : ∀ v, G v → ∀ H1, R.ok m H H1 → D.nx (σ.set i (some v)) H1) : StF R n (tAsg te (gName i)) D σ H := fun H1 e => h H1 e _ fun v H2 e2 hv => k v hv H2 (R.trans e e2)
theorem s_asgV {i : Nat} (h : EvP R n m te σ H (is v)) (k : ∀ H1, R.ok m H H1 → D.nx (σ.set i (some v)) H1) : StF R n (tAsg te (gName i)) D σ H := fun H1 e => h H1 e _ fun w H2 e2 hw => by
  have hw : w = v := hw
  subst hw
  exact k H2 (R.trans e e2)
theorem s_asg {i : Nat} (h : EvP R n m te σ H p) (k : ∀ v H1, R.ok m H H1 → p.P R.M v H1 → D.nx (σ.set i (some v)) H1) : StF R n (tAsg te (gName i)) D σ H := fun H1 e => h H1 e _ fun v H2 e2 hv => k v H2 (R.trans e e2) hv
theorem q_asgG {i : Nat} {G : V → Prop} (h : EvP R n m te σ H (sat G)) (k : ∀ v, G v → StF R m tz D (σ.set i (some v)) H) : StF R n (tSeq (tAsg te (gName i)) tz) D σ H := s_asgG (D := { D with nx := tz D }) h fun v hv H1 e => k v hv H1 e
theorem q_asgV {i : Nat} (h : EvP R n m te σ H (is v)) (k : StF R m tz D (σ.set i (some v)) H) : StF R n (tSeq (tAsg te (gName i)) tz) D σ H := s_asgV (D := { D with nx := tz D }) h fun H1 e => k H1 e
theorem q_asg {i : Nat} (h : EvP R n m te σ H p) (k : ∀ v H1, R.ok m H H1 → p.P R.M v H1 → StF R m tz D (σ.set i (some v)) H1) : StF R n (tSeq (tAsg te (gName i)) tz) D σ H := s_asg (D := { D with nx := tz D }) h fun v H1 e hv => (k v H1 e hv).run e.1
theorem q_if {G : Bool → Prop} (h : EvT R n m t σ H G) (h1 : G true → StF R m tu { D with nx := tz D } σ H) (h2 : G false → StF R m tw { D with nx := tz D } σ H) : StF R n (tSeq (tIfS t tu tw) tz) D σ H := s_if (D := { D with nx := tz D }) h h1 h2
/-- an if without else -/
theorem q_when {G : Bool → Prop} (h : EvT R n m t σ H G) (h1 : G true → StF R m tu { D with nx := tz D } σ H) (h2 : G false → StF R m tz D σ H) : StF R n (tSeq (tIfS t tu tNext) tz) D σ H := s_if (D := { D with nx := tz D }) h h1 fun hb H1 e => h2 hb H1 e
theorem q_whenB {b : Bool} (h : EvT R n m t σ H (· = b)) (h1 : b = true → StF R m tu { D with nx := tz D } σ H) (h2 : b = false → StF R m tz D σ H) : StF R n (tSeq (tIfS t tu tNext) tz) D σ H := q_when h (fun e => h1 e.symm) (fun e => h2 e.symm)
theorem s_when {G : Bool → Prop} (h : EvT R n m t σ H G) (h1 : G true → StF R m tu D σ H) (h2 : G false → ∀ H1, R.ok m H H1 → D.nx σ H1) : StF R n (tIfS t tu tNext) D σ H := s_if h h1 h2
theorem q_par {i j : Nat} {tar : TA} {p q : SP} (h : EvA R n m tar σ H [p, q]) (k : ∀ v w H1, R.ok m H H1 → p.P R.M v H1 → q.P R.M w H1 → StF R m tz D ((σ.set i (some v)).set j (some w)) H1) : StF R n (tSeq (tPar i j tar) tz) D σ H := fun H1 e => h H1 e _ fun vs H2 e2 hv => by
  cases hv with
  | cons a b => cases b with
    | cons a2 b2 => cases b2; exact ⟨_, _, rfl, (k _ _ H2 (R.trans e e2) a a2).run e2.1⟩
/-- .. both known by their properties alone -/
theorem s_parG {i j : Nat} {tar : TA} {F G : V → Prop} (h : EvA R n m tar σ H [sat F, sat G]) (k : ∀ v w, F v → G w → ∀ H1, R.ok m H H1 → D.nx ((σ.set i (some v)).set j (some w)) H1) : StF R n (tPar i j tar) D σ H := fun H1 e => h H1 e _ fun vs H2 e2 hv => by
  cases hv with
  | cons a b => cases b with
    | cons a2 b2 => cases b2; exact ⟨_, _, rfl, k _ _ a a2 H2 (R.trans e e2)⟩
theorem q_parG {i j : Nat} {tar : TA} {F G : V → Prop} (h : EvA R n m tar σ H [sat F, sat G]) (k : ∀ v w, F v → G w → StF R m tz D ((σ.set i (some v)).set j (some w)) H) : StF R n (tSeq (tPar i j tar) tz) D σ H := s_parG (D := { D with nx := tz D }) h fun v w hv hw H1 e => k v w hv hw H1 e
end
end My
namespace My
open PySem PySem.Spec PyProof.Rows L2
abbrev Codes := List Nat
/-- a text by its codes -/
abbrev sv (l : Codes) : V := .str (SX.S l)
abbrev cs (x : Str) : Codes := x.cps.toList
theorem sv_inj {a b : Codes} (h : sv a = sv b) : a = b := SX.S_inj (V.str.inj h)
theorem sv_of (x : Str) : V.str x = sv (cs x) := congrArg V.str (SX.S_tl x).symm
theorem dec_sv (a b : Codes) : decide (sv a = sv b) = decide (a = b) := by
  by_cases h : a = b
  · rw [decide_eq_true h, decide_eq_true (by rw [h])]
  · rw [decide_eq_false h, decide_eq_false fun e => h (sv_inj e)]
theorem dec_int (a b : Int) : decide (V.int a = V.int b) = decide (a = b) := by
  by_cases h : a = b
  · rw [decide_eq_true h, decide_eq_true (by rw [h])]
  · rw [decide_eq_false h, decide_eq_false fun e => h (V.int.inj e)]
theorem dec_bl (a b : Bool) : decide (V.bl a = V.bl b) = (a == b) := by
  cases a <;> cases b <;> rfl
theorem slen {l : Codes} (h : l.length ≤ 100000) : (SX.S l).length ≤ sizeLine := by
  rw [SX.S_len]
  exact Evl.sz_of h
section
variable {R : Rel} {n m k : Nat} {K : PySem.W.Frag} {σ : L2.St} {H H' : Hp} {ta tb tc te : TE} {t u : TT} {x y z v : V} {p q s : SP}
theorem ev_str {l : Codes} {c : Str} (h : c = SX.S l) : EvP R n n (tC (.str c)) σ H (is (sv l)) := by
  subst h
  exact ev_c
theorem rv_now {r : R2} (h : ∀ Q : VK, Q z H → r x y H Q) : RV R r x y H (is z) := fun _ j Q k => h Q (k z H (R.self j) rfl)
theorem rc_now {r : List V → Hp → VK → Prop} {vs : List V} (h : ∀ Q : VK, Q z H → r vs H Q) : RC R r vs H (is z) := fun _ j Q k => h Q (k z H (R.self j) rfl)
theorem rm_now {r : V → List V → Hp → VK → Prop} {vs : List V} (h : ∀ Q : VK, Q z H → r x vs H Q) : RM R r x vs H (is z) := fun _ j Q k => h Q (k z H (R.self j) rfl)
theorem rs_now {r : V → Option Int → Option Int → Hp → VK → Prop} {lo hi : Option Int} (h : ∀ Q : VK, Q z H → r x lo hi H Q) : RS R r x lo hi H (is z) := fun _ j Q k => h Q (k z H (R.self j) rfl)
/-! ### ints -/
variable {i j : Int} {a b : Codes}
theorem rv_addI : RV R (rAddU K) (.int i) (.int j) H (is (.int (i + j))) := rv_now fun _ q => .inl ⟨i, j, rfl, rfl, q⟩
theorem rv_subI : RV R (rI0 fun i j => V.int (i - j)) (.int i) (.int j) H (is (.int (i - j))) := rv_now fun _ q => ⟨i, j, rfl, rfl, q⟩
theorem rv_mulI (h : CMul i j) : RV R rMulU (.int i) (.int j) H (is (.int (i * j))) := rv_now fun _ q => .inl ⟨i, j, rfl, rfl, h, q⟩
theorem rv_modI (h : 0 < j) : RV R (rI (fun _ j => 0 < j) fun i j => V.int (i % j)) (.int i) (.int j) H (is (.int (i % j))) := rv_now fun _ q => ⟨i, j, rfl, rfl, h, q⟩
theorem rv_divI (h : CDiv i j) : RV R rDivU (.int i) (.int j) H (is (.int (i / j))) := rv_now fun _ q => .inl ⟨i, j, rfl, rfl, h, q⟩
theorem rv_divW (h : CDivW i j) : RV R rDivU (.int i) (.int j) H (is (.int (i / j))) := rv_now fun _ q => .inr ⟨i, j, rfl, rfl, h, q⟩
theorem rv_powI (h : CPow i j) : RV R (rI CPow fun i j => V.int (i ^ j.toNat)) (.int i) (.int j) H (is (.int (i ^ j.toNat))) := rv_now fun _ q => ⟨i, j, rfl, rfl, h, q⟩
theorem rv_ltI : RV R rLtU (.int i) (.int j) H (is (.bl (decide (i < j)))) := rv_now fun _ q => .inl ⟨i, j, rfl, rfl, q⟩
theorem rv_leI : RV R rLeU (.int i) (.int j) H (is (.bl (decide (i ≤ j)))) := rv_now fun _ q => ⟨i, j, rfl, rfl, q⟩
theorem rv_gtI : RV R rGtU (.int i) (.int j) H (is (.bl (decide (j < i)))) := rv_now fun _ q => ⟨i, j, rfl, rfl, q⟩
theorem rv_geI : RV R rGeU (.int i) (.int j) H (is (.bl (decide (j ≤ i)))) := rv_now fun _ q => ⟨i, j, rfl, rfl, q⟩
theorem rv_eqI : RV R (rEqU K) (.int i) (.int j) H (is (.bl (decide (i = j)))) := rv_now fun _ q => .inl ⟨rfl, by rw [dec_int]; exact q⟩
theorem rv_neI : RV R (rNeU K) (.int i) (.int j) H (is (.bl (!decide (i = j)))) := rv_now fun _ q => .inl ⟨rfl, by rw [dec_int]; exact q⟩
/-! ### bools, None -/
theorem rv_eqB {c d : Bool} : RV R (rEqU K) (.bl c) (.bl d) H (is (.bl (c == d))) := rv_now fun _ q => .inl ⟨rfl, by rw [dec_bl]; exact q⟩
theorem rv_neB {c d : Bool} : RV R (rNeU K) (.bl c) (.bl d) H (is (.bl (!(c == d)))) := rv_now fun _ q => .inl ⟨rfl, by rw [dec_bl]; exact q⟩
theorem rv_isN : RV R rIsU x .non H (is (.bl (decide (x = .non)))) := rv_now fun _ q => .inl ⟨rfl, q⟩
theorem rv_isNotN : RV R rIsNotU x .non H (is (.bl (!decide (x = .non)))) := rv_now fun _ q => .inl ⟨rfl, q⟩
theorem rv_isB {c d : Bool} : RV R rIsU (.bl c) (.bl d) H (is (.bl (decide (c = d)))) := rv_now fun _ q => .inr ⟨c, d, rfl, rfl, q⟩
/-! ### texts -/
theorem rv_addS (h : a.length + b.length ≤ 100000) : RV R (rAddU K) (sv a) (sv b) H (is (sv (a ++ b))) := rv_now fun _ q => .inr (.inl ⟨_, _, rfl, rfl, by rw [SX.S_len, SX.S_len]; exact Evl.sz_of h, by rw [SX.S_cat]; exact q⟩)
theorem rv_eqS : RV R (rEqU K) (sv a) (sv b) H (is (.bl (decide (a = b)))) := rv_now fun _ q => .inl ⟨rfl, by rw [dec_sv]; exact q⟩
theorem rv_neS : RV R (rNeU K) (sv a) (sv b) H (is (.bl (!decide (a = b)))) := rv_now fun _ q => .inl ⟨rfl, by rw [dec_sv]; exact q⟩
theorem rv_ltS : RV R rLtU (sv a) (sv b) H (is (.bl (decide (a < b)))) := rv_now fun _ q => .inr ⟨_, _, rfl, rfl, q⟩
theorem rv_inS {c : Nat} : RV R (rInU K) (sv [c]) (sv b) H (is (.bl (decide (c ∈ b)))) := rv_now fun _ q => .inl ⟨c, _, rfl, rfl, q⟩
theorem rv_niS {c : Nat} : RV R (rNotInU K) (sv [c]) (sv b) H (is (.bl (!decide (c ∈ b)))) := rv_now fun _ q => .inl ⟨c, _, rfl, rfl, q⟩
theorem rv_ixS {c : Nat} (hl : a.length ≤ 100000) (h : atI a i = some c) : RV R (rIx K) (sv a) (.int i) H (is (sv [c])) := rv_now fun _ q => .inr (.inr ⟨_, i, c, rfl, rfl, slen hl, h, q⟩)
theorem rv_ixL {l : Addr} {xs : List V} (hl : SqL K H l xs) (h : atI xs i = some v) : RV R (rIx K) (.ref l) (.int i) H (is v) := rv_now fun _ q => .inl ⟨l, xs, i, v, rfl, rfl, hl, h, q⟩
theorem rv_ixT {l : Addr} {xs : List V} (hl : SqT K H l xs) (h : atI xs i = some v) : RV R (rIx K) (.ref l) (.int i) H (is v) := rv_now fun _ q => .inr (.inl ⟨l, xs, i, v, rfl, rfl, hl, h, q⟩)
/-- slices by codes -/
def sl (l : Codes) (lo hi : Option Int) : Codes := cs (cutS (SX.S l) lo hi)
theorem rs_S {lo hi : Option Int} (hl : a.length ≤ 100000) : RS R (rSlU K) (sv a) lo hi H (is (sv (sl a lo hi))) := rs_now fun _ q => .inl ⟨_, rfl, slen hl, by
  have e : V.str (cutS (SX.S a) lo hi) = sv (sl a lo hi) := sv_of _
  rw [e]
  exact q⟩
theorem sl_to {i : Int} (h : 0 ≤ i) : sl a none (some i) = a.take i.toNat := by
  unfold sl
  rw [C8.cutS_slice, SX.slice_to h]
theorem sl_from {i : Int} (h : 0 ≤ i) : sl a (some i) none = a.drop i.toNat := by
  unfold sl
  rw [C8.cutS_slice, SX.slice_from h]
theorem sl_len (l : Codes) (lo hi : Option Int) : (sl l lo hi).length ≤ l.length := by
  have h := cutS_length (SX.S l) lo hi
  have e0 := SX.S_len l
  have e : (cutS (SX.S l) lo hi).length = (sl l lo hi).length := TL.len_tl _
  omega
/-! ### calls -/
theorem one {vs : List V} (h : Paired (fun v (p : SP) => p.P R.M v H) vs [p]) : ∃ v, vs = [v] ∧ p.P R.M v H := by
  cases h with
  | cons a b => cases b; exact ⟨_, rfl, a⟩
theorem two {vs : List V} (h : Paired (fun v (p : SP) => p.P R.M v H) vs [p, q]) : ∃ v w, vs = [v, w] ∧ p.P R.M v H ∧ q.P R.M w H := by
  cases h with
  | cons a b => cases b with
    | cons c d => cases d; exact ⟨_, _, rfl, a, c⟩
theorem three {vs : List V} (h : Paired (fun v (p : SP) => p.P R.M v H) vs [p, q, s]) : ∃ v w z, vs = [v, w, z] ∧ p.P R.M v H ∧ q.P R.M w H ∧ s.P R.M z H := by
  cases h with
  | cons a b => cases b with
    | cons c d => cases d with
      | cons e f => cases f; exact ⟨_, _, _, rfl, a, c, e⟩
theorem ev_len1 {len : Nat} (ha : EvP R n m te σ H p) (hn : ∀ v H1, R.ok m H H1 → p.P R.M v H1 → LenV K v H1 len) : EvP R n m (tCB (rLenU K) (tCons te tNil)) σ H (is (.int len)) := ev_cb (ea_cons ha ea_nil) fun vs H1 e hv => by
  obtain ⟨v, rfl, h⟩ := one hv
  exact rc_now fun _ q => ⟨v, len, rfl, hn v H1 e h, q⟩
theorem ev_lenS (ha : EvP R n m te σ H (is (sv a))) (hl : a.length ≤ 100000) : EvP R n m (tCB (rLenU K) (tCons te tNil)) σ H (is (.int a.length)) := ev_len1 ha fun v H1 _ hv => by
  have hv : v = sv a := hv
  subst hv
  exact ⟨slen hl, (SX.S_len a).symm⟩
theorem ev_lenL {xs : List V} {l : Addr} (ha : EvP R n m te σ H (is (.ref l))) (hl : SqM K R.M H l xs) : EvP R n m (tCB (rLenU K) (tCons te tNil)) σ H (is (.int xs.length)) := ev_len1 ha fun v H1 e hv => by
  have hv : v = .ref l := hv
  subst hv
  exact .inl ⟨xs, (hl.st e.2).sq, rfl⟩
theorem ev_intI (ha : EvP R n m te σ H (is (.int i))) : EvP R n m (tCB rIntU (tCons te tNil)) σ H (is (.int i)) := ev_cb (ea_cons ha ea_nil) fun vs H1 e hv => by
  obtain ⟨v, rfl, h⟩ := one hv
  have h : v = .int i := h
  subst h
  exact rc_now fun _ q => .inl (.inl ⟨i, rfl, q⟩)
theorem ev_intB {c : Bool} (ha : EvP R n m te σ H (is (.bl c))) : EvP R n m (tCB rIntU (tCons te tNil)) σ H (is (.int (if c then 1 else 0))) := ev_cb (ea_cons ha ea_nil) fun vs H1 e hv => by
  obtain ⟨v, rfl, h⟩ := one hv
  have h : v = .bl c := h
  subst h
  exact rc_now fun _ q => .inl (.inr ⟨c, rfl, q⟩)
theorem ev_intS {iv : Int} (ha : EvP R n m te σ H (is (sv a))) (hn : PySem.intText? (SX.S a) = some iv) (hl : a.length ≤ 640) : EvP R n m (tCB rIntU (tCons te tNil)) σ H (is (.int iv)) := ev_cb (ea_cons ha ea_nil) fun vs H1 e hv => by
  obtain ⟨v, rfl, h⟩ := one hv
  have h : v = sv a := h
  subst h
  exact rc_now fun _ q => .inr ⟨_, iv, rfl, hn, by rw [SX.S_len]; exact hl, q⟩
/-- isinstance -/
theorem ev_isi {c : V} {tv uv : Value} {d : Bool} (ha : EvP R n m ta σ H p) (hb : EvP R m k tb σ H (is c)) (hc : ClsV c uv) (ht : ∀ v H1, R.ok k H H1 → p.P R.M v H1 → TyX K H1 v tv) (hk : PySem.W.kitOne K tv uv = some d) : EvP R n k (tCB (rIsi K) (tCons ta (tCons tb tNil))) σ H (is (.bl d)) :=
  ev_cb (ea_cons ha (ea_cons hb ea_nil)) fun vs H1 e hv => by
    obtain ⟨v, w, rfl, h1, h2⟩ := two hv
    have h2 : w = c := h2
    subst h2
    exact rc_now fun _ q => ⟨v, w, tv, uv, d, rfl, hc, ht v H1 e h1, hk, q⟩
/-- methods of a text without arguments, with one -/
theorem ev_bmS0 {l : Codes} {f : Str → Str} {rm : V → List V → Hp → VK → Prop} (ha : EvP R n m te σ H (is (sv a))) (hf : f (SX.S a) = SX.S l) (hr : ∀ H1 Q, Q (.str (f (SX.S a))) H1 → rm (sv a) [] H1 Q) : EvP R n m (tBM0 K "str" rm te) σ H (is (sv l)) := fun H1 e Q k =>
  ha H1 e _ fun x H2 e2 hx => by
    have hx : x = sv a := hx
    subst hx
    exact ⟨rfl, hr H2 Q (by rw [hf]; exact k _ H2 e2 rfl)⟩
theorem ev_bmS1 {rm : V → List V → Hp → VK → Prop} (ha : EvP R n m te σ H (is (sv a))) (hb : EvP R m k tb σ H p) (hr : ∀ v H1, R.ok k H H1 → p.P R.M v H1 → RM R rm (sv a) [v] H1 s) : EvP R n k (tBM K "str" rm te (tCons tb tNil)) σ H s :=
  ev_bm ha (fun x H1 _ hx => by
    have hx : x = sv a := hx
    subst hx
    rfl) (ea_cons hb ea_nil) fun x vs H1 e hx hv => by
      have hx : x = sv a := hx
      subst hx
      obtain ⟨v, rfl, h⟩ := one hv
      exact hr v H1 e h
end
end My
namespace My
open PySem PySem.Spec PyProof.Rows L2
theorem SqM.ofL {K : PySem.W.Frag} {M : Addr → Prop} {H : Hp} {p : Addr} {xs : List V} (h : SqL K H p xs) (m : ¬ M p) : SqM K M H p xs := h.imp (fun a => ⟨a, m⟩) fun a _ => .inr a
theorem StM.ofT {K : PySem.W.Frag} {M : Addr → Prop} {H : Hp} {p : Addr} {xs : List V} (h : SqT K H p xs) (m : ¬ M p) : StM K M H p xs := h.imp (fun a => ⟨a, m⟩) fun a _ => .inr a
theorem paired_at {α β : Type} {F : α → β → Prop} : ∀ {xs : List α} {ys : List β} {i : Nat} {x : α} {y : β}, Paired F xs ys → xs[i]? = some x → ys[i]? = some y → F x y
  | _, _, 0, _, _, .cons a _, h1, h2 => by cases h1; cases h2; exact a
  | _, _, i + 1, _, _, .cons _ b, h1, h2 => paired_at b h1 h2
section
variable {R : Rel} {n m k : Nat} {K : PySem.W.Frag} {σ : L2.St} {H H' : Hp} {ta tb tc te : TE} {t u : TT} {x y z v : V} {p q s : SP} {D : Ends} {tu tw tz : TS} {g : TG}
/-! ### displays -/
theorem ev_lst {tar : TA} {ps : List SP} (h : EvA R n m tar σ H ps) (hl : ps.length ≤ 100000) : EvP R n m (tLst tar) σ H (lstP id ps) := fun H1 e Q f =>
  h H1 e _ fun vs H2 e2 hv => ⟨by rw [hv.length]; exact Evl.sz_of hl, fun l hl => f _ _ (R.trans e2 (R.new e2.1 hl)) ⟨l, vs, rfl, ⟨upd_same, R.fresh e2.1 hl⟩, Paired_imp (fun _ q z => q.st (R.new e2.1 hl).2 z) hv⟩⟩
theorem ev_tup {tar : TA} {ps : List SP} (h : EvA R n m tar σ H ps) (hl : ps.length ≤ 100000) : EvP R n m (tTup tar) σ H (tupP K id ps) := fun H1 e Q f =>
  h H1 e _ fun vs H2 e2 hv => ⟨by rw [hv.length]; exact Evl.sz_of hl, fun l hl => f _ _ (R.trans e2 (R.new e2.1 hl)) ⟨l, vs, rfl, .of upd_same (R.fresh e2.1 hl), Paired_imp (fun _ q z => q.st (R.new e2.1 hl).2 z) hv⟩⟩
/-- known items -/
theorem paired_is {M : Addr → Prop} {H : Hp} : ∀ {vs xs : List V}, Paired (fun v (p : SP) => p.P M v H) vs (xs.map is) → vs = xs
  | _, [], .nil => rfl
  | _, x :: xs, .cons a b => by rw [paired_is b, show _ = x from a]
theorem ev_lstV {tar : TA} {vs : List V} (h : EvA R n m tar σ H (vs.map is)) (hl : vs.length ≤ 100000) : EvP R n m (tLst tar) σ H (lstG (· = vs)) := (ev_lst h (by rw [List.length_map]; exact hl)).imp fun v H1 _ ⟨l, xs, e, h, g⟩ => ⟨l, xs, e, h, paired_is g⟩
theorem ev_tupV {tar : TA} {vs : List V} (h : EvA R n m tar σ H (vs.map is)) (hl : vs.length ≤ 100000) : EvP R n m (tTup tar) σ H (tupG K (· = vs)) := (ev_tup (K := K) h (by rw [List.length_map]; exact hl)).imp fun v H1 _ ⟨l, xs, e, h, g⟩ => ⟨l, xs, e, h, paired_is g⟩
/-! ### iterators -/
structure ItOk (M : Addr → Prop) (J : It) (ys : List SP) (H : Hp) : Prop where
  go : ∀ M' i H', Ext0 M H M' H' → i < ys.length → J.go i H'
  yld : ∀ M' i H' x H'', Ext0 M H M' H' → (∀ a, M' a → H' a ≠ none) → i < ys.length → J.yld i H' x H'' → Evl.Ex H' H'' ∧ ∀ y, ys[i]? = some y → y.P M' x H''
  stop : ∀ M' H', Ext0 M H M' H' → J.stop ys.length H'
def ItP (R : Rel) (n m : Nat) (wi : TI) (σ : L2.St) (H : Hp) (ys : List SP) : Prop := ∀ H1, R.ok n H H1 → ∀ Rk : It → Hp → Prop, (∀ J H2, R.ok m H1 H2 → ItOk R.M J ys H2 → Rk J H2) → wi σ H1 Rk
theorem it_list {l : Addr} {xs : List V} (ha : EvP R n m te σ H (is (.ref l))) (hx : SqM K R.M H l xs) : ItP R n m (iAny K te) σ H (xs.map is) := fun H1 e Rk k => .inl (ha H1 e _ fun v H2 e2 hv => by
  have hv : v = .ref l := hv
  subst hv
  have h2 := hx.st (R.trans e e2).2
  refine ⟨l, rfl, ⟨xs, h2.sq⟩, k _ H2 e2 ⟨fun M' i H' e' hi => ?_, fun M' i H' x H'' e' _ hi hy => ?_, fun M' H' e' => ?_⟩⟩
  · rw [List.length_map] at hi
    exact ⟨xs, _, ((h2.lift e'.w).st e'.pr).sq, List.getElem?_eq_getElem hi⟩
  · obtain ⟨rfl, f⟩ := hy
    refine ⟨Evl.Ex.refl _, fun y hy => ?_⟩
    have q := f _ ((h2.lift e'.w).st e'.pr).sq
    rw [List.getElem?_map, q] at hy
    cases hy
    rfl
  · exact ⟨xs, ((h2.lift e'.w).st e'.pr).sq, by rw [List.length_map]; exact Nat.le_refl _⟩)
theorem it_tuple {l : Addr} {xs : List V} (ha : EvP R n m te σ H (is (.ref l))) (hx : StM K R.M H l xs) : ItP R n m (iAny K te) σ H (xs.map is) := fun H1 e Rk k => .inr (.inl (ha H1 e _ fun v H2 e2 hv => by
  have hv : v = .ref l := hv
  subst hv
  have h2 := hx.st (R.trans e e2).2
  refine ⟨l, rfl, ⟨xs, h2.sq⟩, k _ H2 e2 ⟨fun M' i H' e' hi => ?_, fun M' i H' x H'' e' _ hi hy => ?_, fun M' H' e' => ?_⟩⟩
  · rw [List.length_map] at hi
    exact ⟨xs, _, ((h2.lift e'.w).st e'.pr).sq, List.getElem?_eq_getElem hi⟩
  · obtain ⟨rfl, f⟩ := hy
    refine ⟨Evl.Ex.refl _, fun y hy => ?_⟩
    have q := f _ ((h2.lift e'.w).st e'.pr).sq
    rw [List.getElem?_map, q] at hy
    cases hy
    rfl
  · exact ⟨xs, ((h2.lift e'.w).st e'.pr).sq, by rw [List.length_map]; exact Nat.le_refl _⟩))
/-- over a list that is told by its properties -/
theorem it_lstP {α : Type} {pe : α → SP} {ys : List α} (ha : EvP R n m te σ H (lstP pe ys)) : ItP R n m (iAny K te) σ H (ys.map pe) := fun H1 e Rk k => .inl (ha H1 e _ fun v H2 e2 hv => by
  obtain ⟨l, xs, rfl, h2, hp⟩ := hv
  have hlen : xs.length = ys.length := hp.length
  refine ⟨l, rfl, ⟨xs, h2.sq⟩, k _ H2 e2 ⟨fun M' i H' e' hi => ?_, fun M' i H' x H'' e' _ hi hy => ?_, fun M' H' e' => ?_⟩⟩
  · rw [List.length_map, ← hlen] at hi
    exact ⟨xs, _, ((h2.lift e'.w).st e'.pr).sq, List.getElem?_eq_getElem hi⟩
  · obtain ⟨rfl, f⟩ := hy
    refine ⟨Evl.Ex.refl _, fun y hy => ?_⟩
    have q := f _ ((h2.lift e'.w).st e'.pr).sq
    rw [List.getElem?_map] at hy
    obtain ⟨w, hw, rfl⟩ := Option.map_eq_some_iff.mp hy
    exact e'.get (paired_at (F := fun v y => (pe y).P R.M v H2) hp q hw)
  · exact ⟨xs, ((h2.lift e'.w).st e'.pr).sq, by rw [List.length_map, ← hlen]; exact Nat.le_refl _⟩)
theorem it_text {a : Codes} (ha : EvP R n m te σ H (is (sv a))) : ItP R n m (iAny K te) σ H (a.map fun c => is (sv [c])) := fun H1 e Rk k => .inr (.inr (ha H1 e _ fun v H2 e2 hv => by
  have hv : v = sv a := hv
  subst hv
  have sz : (SX.S a).cps.size = a.length := by simp [SX.S]
  refine ⟨SX.S a, rfl, k _ H2 e2 ⟨fun M' i H' e' hi => ?_, fun M' i H' x H'' e' _ hi hy => ?_, fun M' H' e' => ?_⟩⟩
  · rw [List.length_map] at hi
    show i < (SX.S a).cps.size
    rw [sz]
    exact hi
  · obtain ⟨rfl, c, hc, rfl⟩ := hy
    refine ⟨Evl.Ex.refl _, fun y hy => ?_⟩
    have hc2 : a[i]? = some c := by
      rw [← hc]
      simp [SX.S]
    rw [List.getElem?_map, hc2] at hy
    cases hy
    rfl
  · show (SX.S a).cps.size ≤ _
    rw [sz, List.length_map]
    exact Nat.le_refl _))
theorem it_range1 {iv : Int} (ha : EvP R n m ta σ H (is (.int iv))) (hn : -1000000 ≤ iv ∧ iv ≤ 1000000) : ItP R n m (iRng1 (tCons ta tNil)) σ H ((List.range iv.toNat).map fun (i : Nat) => is (.int (i : Int))) := fun H1 e Rk k => ha H1 e _ fun v H2 e2 hv => by
  have hv : v = .int iv := hv
  subst hv
  refine ⟨iv, rfl, by omega, by omega, k _ H2 e2 ⟨fun M' i H' e' hi => ?_, fun M' i H' x H'' e' _ hi hy => ?_, fun M' H' e' => ?_⟩⟩
  · rw [List.length_map, List.length_range] at hi
    exact hi
  · obtain ⟨rfl, rfl⟩ := hy
    refine ⟨Evl.Ex.refl _, fun y hy => ?_⟩
    rw [List.length_map, List.length_range] at hi
    rw [List.getElem?_map, List.getElem?_range hi] at hy
    cases hy
    show V.int (0 + (i : Int)) = V.int (i : Int)
    rw [Int.zero_add]
  · show iv.toNat ≤ _
    rw [List.length_map, List.length_range]
    exact Nat.le_refl _
/-! ### for -/
/-- the invariant Pv B i σ H: behind i turns; B: the heap ahead of the first turn; c i: the draws that may come then; what is walked is found by R1 -/
theorem s_for2 {R1 : Rel} {wi : TI} {ys : List SP} {c : Nat → Nat} {c1 : Nat} (hM : ∀ a, R.M a → R1.M a) (hi : ItP R1 n c1 wi σ H ys) (Pv : Hp → Nat → L2.St → Hp → Prop) (hP : ∀ B i σ' H', Pv B i σ' H' → R.ok (c i) B H') (h0 : ∀ B, R1.ok c1 H B → Pv B 0 σ B)
    (hs : ∀ B i y σ' H' x H'', R1.ok c1 H B → ys[i]? = some y → Pv B i σ' H' → Evl.Ex H' H'' → y.P R.M x H'' → g x σ' H'' fun σ2 H2 => tu { D with nx := Pv B (i + 1), ct := Pv B (i + 1), bk := D.nx } σ2 H2) (hd : ∀ B σ' H', R1.ok c1 H B → Pv B ys.length σ' H' → D.nx σ' H') : StF R1 n (tFor wi g tu) D σ H := fun H1 e =>
  hi H1 e _ fun J H2 e2 ok => ⟨fun i m σ' H' => m = ys.length - i ∧ i ≤ ys.length ∧ Pv H2 i σ' H', ⟨ys.length, by simp, Nat.zero_le _, h0 H2 (R1.trans e e2)⟩, fun i m σ' H' hw => by
    obtain ⟨rfl, hle, hp⟩ := hw
    have er := hP H2 i σ' H' hp
    have ex : Ext0 R1.M H2 R.M H' := ⟨fun a m => .inl (hM a m), er.2⟩
    by_cases hlt : i < ys.length
    · refine .inr ⟨ok.go R.M i H' ex hlt, Pv H2 (i + 1), fun σ2 H2' hn => ⟨ys.length - (i + 1), by omega, rfl, by omega, hn⟩, fun x H'' hy => ?_⟩
      obtain ⟨er2, hyp⟩ := ok.yld R.M i H' x H'' ex (fun a m => R.alive er.1 m) hlt hy
      exact hs H2 i ys[i] σ' H' x H'' (R1.trans e e2) (List.getElem?_eq_getElem hlt) hp er2 (hyp _ (List.getElem?_eq_getElem hlt))
    · have : i = ys.length := by omega
      subst this
      exact .inl ⟨ok.stop R.M H' ex, hd H2 σ' H' (R1.trans e e2) hp⟩⟩
theorem s_for {wi : TI} {ys : List SP} {c : Nat → Nat} (hi : ItP R n (c 0) wi σ H ys) (Pv : Hp → Nat → L2.St → Hp → Prop) (hP : ∀ B i σ' H', Pv B i σ' H' → R.ok (c i) B H') (h0 : ∀ B, R.ok (c 0) H B → Pv B 0 σ B)
    (hs : ∀ B i y σ' H' x H'', R.ok (c 0) H B → ys[i]? = some y → Pv B i σ' H' → Evl.Ex H' H'' → y.P R.M x H'' → g x σ' H'' fun σ2 H2 => tu { D with nx := Pv B (i + 1), ct := Pv B (i + 1), bk := D.nx } σ2 H2) (hd : ∀ B σ' H', R.ok (c 0) H B → Pv B ys.length σ' H' → D.nx σ' H') : StF R n (tFor wi g tu) D σ H := s_for2 (fun _ m => m) hi Pv hP h0 hs hd
/-- the ends of a turn whose invariant speaks of the slots alone -/
def LE (R : Rel) (n : Nat) (B : Hp) (D : Ends) (I : L2.St → Prop) : Ends := { D with nx := fun σ2 H2 => R.ok n B H2 ∧ I σ2, ct := fun σ2 H2 => R.ok n B H2 ∧ I σ2, bk := D.nx }
/-- known items, a name as target, the slots alone -/
theorem s_forC {wi : TI} {vs : List V} {j : Nat} (c : Nat → Nat) (hi : ItP R n (c 0) wi σ H (vs.map is)) (Iv : Nat → L2.St → Prop) (h0 : Iv 0 σ)
    (hs : ∀ B i w σ', R.ok (c 0) H B → vs[i]? = some w → Iv i σ' → StF R (c i) tu (LE R (c (i + 1)) B D (Iv (i + 1))) (σ'.set j (some w)) B) (hd : ∀ σ' H', R.ok (c vs.length) H H' → Iv vs.length σ' → D.nx σ' H') : StF R n (tFor wi (gName j) tu) D σ H :=
  s_for (c := c) hi (fun B i σ' H' => R.ok (c i) B H' ∧ Iv i σ') (fun _ _ _ _ h => h.1) (fun B e => ⟨R.refl e, h0⟩) (fun B i y σ' H' x H'' eb hy hp er hx => by
    rw [List.getElem?_map] at hy
    obtain ⟨w, hw, rfl⟩ := Option.map_eq_some_iff.mp hy
    have hx : x = w := hx
    subst hx
    exact hs B i x σ' eb hw hp.2 H'' (R.trans hp.1 (R.ex hp.1.1 er))) (fun B σ' H' eb hp => by
      rw [List.length_map] at hp
      exact hd σ' H' (R.trans eb hp.1) hp.2)
theorem q_forC {wi : TI} {vs : List V} {j : Nat} (c : Nat → Nat) (hi : ItP R n (c 0) wi σ H (vs.map is)) (Iv : Nat → L2.St → Prop) (h0 : Iv 0 σ)
    (hs : ∀ B i w σ', R.ok (c 0) H B → vs[i]? = some w → Iv i σ' → StF R (c i) tu (LE R (c (i + 1)) B { D with nx := tz D } (Iv (i + 1))) (σ'.set j (some w)) B) (hd : ∀ σ', Iv vs.length σ' → StF R (c vs.length) tz D σ' H) : StF R n (tSeq (tFor wi (gName j) tu) tz) D σ H :=
  s_forC (D := { D with nx := tz D }) c hi Iv h0 hs fun σ' H' e hv => hd σ' hv H' e
/-- .. without draws -/
theorem s_forV {wi : TI} {vs : List V} {j : Nat} (hi : ItP R n n wi σ H (vs.map is)) (Iv : Nat → L2.St → Prop) (h0 : Iv 0 σ)
    (hs : ∀ B i w σ', R.ok n H B → vs[i]? = some w → Iv i σ' → StF R n tu (LE R n B D (Iv (i + 1))) (σ'.set j (some w)) B) (hd : ∀ σ' H', R.ok n H H' → Iv vs.length σ' → D.nx σ' H') : StF R n (tFor wi (gName j) tu) D σ H := s_forC (fun _ => n) hi Iv h0 hs hd
theorem q_forV {wi : TI} {vs : List V} {j : Nat} (hi : ItP R n n wi σ H (vs.map is)) (Iv : Nat → L2.St → Prop) (h0 : Iv 0 σ)
    (hs : ∀ B i w σ', R.ok n H B → vs[i]? = some w → Iv i σ' → StF R n tu (LE R n B { D with nx := tz D } (Iv (i + 1))) (σ'.set j (some w)) B) (hd : ∀ σ', Iv vs.length σ' → StF R n tz D σ' H) : StF R n (tSeq (tFor wi (gName j) tu) tz) D σ H := q_forC (fun _ => n) hi Iv h0 hs hd
/-! ### while, the slots alone, no draws -/
theorem s_whileV (W : Nat → L2.St → Prop) (m0 : Nat) (h0 : W m0 σ)
    (hs : ∀ B m σ', R.ok n H B → W m σ' → ∃ b, EvT R n n t σ' B (· = b) ∧ (b = true → StF R n tu (LE R n B D fun σ2 => ∃ m', m' < m ∧ W m' σ2) σ' B) ∧ (b = false → ∀ H1, R.ok n B H1 → D.nx σ' H1)) : StF R n (tWhile t tu) D σ H := fun H1 e =>
  ⟨fun m σ' H' => R.ok n H H' ∧ W m σ', ⟨m0, e, h0⟩, fun m σ' H' hw => by
    obtain ⟨er, hw⟩ := hw
    obtain ⟨b, hb, h1, h2⟩ := hs H' m σ' er hw
    refine hb H' (R.refl er) _ fun c H2 e2 hc => ?_
    subst hc
    cases c with
    | true => exact ⟨fun σ2 H3 => R.ok n H' H3 ∧ ∃ m', m' < m ∧ W m' σ2, fun σ2 H3 hn => by
        obtain ⟨a, m', hm, hw'⟩ := hn
        exact ⟨m', hm, R.trans er a, hw'⟩, h1 rfl H2 e2⟩
    | false => exact h2 rfl H2 e2⟩
theorem q_whileV (W : Nat → L2.St → Prop) (m0 : Nat) (h0 : W m0 σ)
    (hs : ∀ B m σ', R.ok n H B → W m σ' → ∃ b, EvT R n n t σ' B (· = b) ∧ (b = true → StF R n tu (LE R n B { D with nx := tz D } fun σ2 => ∃ m', m' < m ∧ W m' σ2) σ' B) ∧ (b = false → StF R n tz D σ' B)) : StF R n (tSeq (tWhile t tu) tz) D σ H :=
  s_whileV (D := { D with nx := tz D }) W m0 h0 fun B m σ' e hw => by
    obtain ⟨b, a, c, d⟩ := hs B m σ' e hw
    exact ⟨b, a, c, fun hb H1 e1 => d hb H1 e1⟩
/-! ### list comprehensions -/
theorem filter_yes {n : Nat} {f : Nat → Bool} (h : f n = true) : (List.range (n + 1)).filter f = (List.range n).filter f ++ [n] := by
  rw [List.range_succ, List.filter_append, List.filter_cons, if_pos h] <;> rfl
theorem filter_no {n : Nat} {f : Nat → Bool} (h : f n = false) : (List.range (n + 1)).filter f = (List.range n).filter f := by
  rw [List.range_succ, List.filter_append, List.filter_cons, if_neg (by rw [h]; decide)]
  show _ ++ [] = _
  rw [List.append_nil]
theorem filter_len (n : Nat) (f : Nat → Bool) : ((List.range n).filter f).length ≤ n := by
  have h := List.length_filter_le f (List.range n)
  rw [List.length_range] at h
  exact h
theorem ev_lc {wi : TI} {vs : List Nat} {ys : List SP} {f : Nat → Bool} {pe : Nat → SP} {c : Nat → Nat} (hi : ItP R n (c 0) wi σ H ys) (hz : ys.length ≤ 50000)
    (hs : ∀ R' H' i y x, Ext R H R' H' → ys[i]? = some y → y.P R'.M x H' → ∃ σ2, (∀ Q : L2.St → Hp → Prop, Q σ2 H' → g x (wipe σ vs) H' Q) ∧ wipe σ2 vs = wipe σ vs ∧ ∃ d, EvT R' (c i) d t σ2 H' (· = f i) ∧ (f i = true → EvP R' d (c (i + 1)) te σ2 H' (pe i)) ∧ (f i = false → c (i + 1) ≤ d)) :
    EvP R n (c ys.length) (tLc wi g t te vs) σ H (lstP pe ((List.range ys.length).filter f)) := fun H0 e Q k => hi H0 e _ fun J H1 e1 ok Dl hD => by
  have j1 : R.J (c 0) H1 := e1.1
  refine ⟨fun i m H' => m = ys.length - i ∧ i ≤ ys.length ∧ R.ok (c i) H1 H' ∧ ∃ acc, H' Dl = some (.lst acc) ∧ Paired (fun v k => (pe k).P (R.off Dl).M v H') acc ((List.range i).filter f), ⟨ys.length, by simp, Nat.zero_le _, R.new j1 hD, [], upd_same, .nil⟩, ?_⟩
  rintro i m H' ⟨rfl, hle, er, acc, hacc, hpr⟩
  have ex := Ext.at j1 er hD hacc
  by_cases hlt : i < ys.length
  · refine .inr ⟨ok.go _ i H' ex.to0 hlt, fun H2 => R.ok (c (i + 1)) H1 H2 ∧ ∃ acc, H2 Dl = some (.lst acc) ∧ Paired (fun v k => (pe k).P (R.off Dl).M v H2) acc ((List.range (i + 1)).filter f), fun H2 hn => ⟨ys.length - (i + 1), by omega, rfl, by omega, hn⟩, fun x H'' hy => ?_⟩
    obtain ⟨er2x, hyp⟩ := ok.yld _ i H' x H'' ex.to0 (fun a m => (R.at Dl acc).alive (n := c i) ⟨er.1, hacc⟩ m) hlt hy
    have er2 : (R.at Dl acc).ok (c i) H' H'' := (R.at Dl acc).ex ⟨er.1, hacc⟩ er2x
    have ex2 := (ex.step er2)
    obtain ⟨σ2, hg, hw, d, ht, he, hf0⟩ := hs (R.at Dl acc) H'' i ys[i] x (ex2.pre (R.trans e e1)) (List.getElem?_eq_getElem hlt) (hyp _ (List.getElem?_eq_getElem hlt))
    have back : ∀ d H3, (R.at Dl acc).ok d H'' H3 → R.ok d H1 H3 := fun d H3 e3 => ⟨e3.1.1, fun a o ma ha => by
      have ne : a ≠ Dl := fun z => by rw [z, hD] at ha; cases ha
      exact e3.2 a o (fun z => z.elim ma ne) (er2.2 a o (fun z => z.elim ma ne) (er.2 a o ma ha))⟩
    refine hg _ ⟨hw, ht H'' ⟨er2.1, pres.refl _⟩ _ fun b H3 e3 hb => ?_⟩
    subst hb
    have hp3 : Paired (fun v k => (pe k).P (R.off Dl).M v H3) acc ((List.range i).filter f) := Paired_imp (fun _ _ z => (pe _).st (er2.2.trans e3.2) z) hpr
    cases hf : f i with
    | true =>
      show te σ2 H3 _
      refine he hf H3 e3 _ fun y H4 e4 hy4 => ⟨acc, e4.1.2, ?_, ?_⟩
      · have h1 := hpr.length
        have h2 := filter_len i f
        exact Evl.sz_lt (by omega)
      · have r4 := back _ H4 ((R.at Dl acc).trans e3 e4)
        have mD : (R.off Dl).M Dl := .inr rfl
        refine ⟨⟨?_, fun a o ma ha => ?_⟩, acc ++ [y], upd_same, ?_⟩
        · exact R.put r4.1 (fun z => R.alive j1 z hD)
        · have ne : a ≠ Dl := fun z => by rw [z, hD] at ha; cases ha
          rw [upd_ne ne]
          exact r4.2 a o ma ha
        · rw [filter_yes hf]
          refine Paired.snoc (Paired_imp (fun _ _ z => (pe _).st (e4.2.trans (pres.upd mD)) z) hp3) ?_
          exact (pe i).st (pres.upd mD) hy4
    | false =>
      show R.ok (c (i + 1)) H1 H3 ∧ _
      have b3 := back _ H3 e3
      refine ⟨⟨R.dec b3.1 (hf0 hf), b3.2⟩, acc, e3.1.2, ?_⟩
      rw [filter_no hf]
      exact hp3
  · have : i = ys.length := by omega
    subst this
    refine .inl ⟨ok.stop _ H' ex.to0, ?_⟩
    refine k _ H' (R.trans e1 er) ⟨Dl, acc, rfl, ⟨hacc, fun z => R.alive j1 z hD⟩, Paired_imp (fun _ _ z => (pe _).lift (fun a m => .inl (.inl m)) z) hpr⟩
end
end My
namespace My
open PySem PySem.Spec PyProof.Rows L2
section
variable {R : Rel} {n m k : Nat} {K : PySem.W.Frag} {σ : L2.St} {H H' : Hp} {ta tb tc te : TE} {t u : TT} {x y z v : V} {p q s : SP} {D : Ends} {tu tw tz : TS} {g : TG}
theorem range_getD {α : Type} (d : α) : ∀ ws : List α, (List.range ws.length).map (fun i => ws.getD i d) = ws
  | [] => rfl
  | w :: ws => by
    rw [List.length_cons, List.range_succ_eq_map, List.map_cons, List.map_map]
    show w :: (List.range ws.length).map (fun i => ws.getD i d) = w :: ws
    rw [range_getD d ws]
theorem getD_of {α : Type} {ws : List α} {i : Nat} {w d : α} (h : ws[i]? = some w) : ws.getD i d = w := by
  rw [List.getD_eq_getElem?_getD, h]
  rfl
theorem sel {α β : Type} (d : α) (F : α → Bool) (gv : α → β) (ws : List α) : ((List.range ws.length).filter fun i => F (ws.getD i d)).map (fun i => gv (ws.getD i d)) = (ws.filter F).map gv := by
  have e := congrArg (fun l => (l.filter F).map gv) (range_getD d ws)
  rw [← e]
  show _ = (((List.range ws.length).map fun i => ws.getD i d).filter F).map gv
  rw [List.filter_map, List.map_map]
  rfl
theorem paired_map {M : Addr → Prop} {α : Type} {gv : α → V} : ∀ {xs : List V} {ks : List α}, Paired (fun v k => (is (gv k)).P M v H) xs ks → xs = ks.map gv
  | _, _, .nil => rfl
  | _, _, .cons a b => by rw [List.map_cons, paired_map b, show _ = gv _ from a]
theorem paired_sub {α β : Type} {F : V → β → Prop} {m : α → β} : ∀ {xs : List V} {ks : List α}, Paired (fun v k => F v (m k)) xs ks → Paired F xs (ks.map m)
  | _, _, .nil => .nil
  | _, _, .cons a b => .cons a (paired_sub b)
/-- over known values, a filter, known elements -/
theorem ev_lcV {wi : TI} {vs : List Nat} {ws : List V} {j : Nat} (F : V → Bool) (gv : V → V) (hi : ItP R n m wi σ H (ws.map is)) (hz : ws.length ≤ 50000) (hw : ∀ x, wipe ((wipe σ vs).set j (some x)) vs = wipe σ vs)
    (hs : ∀ R' H' w, Ext R H R' H' → w ∈ ws → EvT R' m m t ((wipe σ vs).set j (some w)) H' (· = F w) ∧ (F w = true → EvP R' m m te ((wipe σ vs).set j (some w)) H' (is (gv w)))) :
    EvP R n m (tLc wi (gName j) t te vs) σ H (lstG (· = (ws.filter F).map gv)) := by
  refine (ev_lc (f := fun i => F (ws.getD i .non)) (pe := fun i => is (gv (ws.getD i .non))) (c := fun _ => m) hi (by rw [List.length_map]; exact hz) fun R' H' i y x ex hy hx => ?_).imp fun v H1 _ hv => ?_
  · rw [List.getElem?_map] at hy
    obtain ⟨w, hw1, rfl⟩ := Option.map_eq_some_iff.mp hy
    have hx : x = w := hx
    subst hx
    obtain ⟨h1, h2⟩ := hs R' H' x ex (List.mem_of_getElem? hw1)
    have eg : ws.getD i .non = x := getD_of hw1
    refine ⟨_, fun Q q => q, hw x, m, ?_, fun hf => ?_, fun _ => Nat.le_refl _⟩
    · show EvT R' m m t _ H' (· = F (ws.getD i .non))
      rw [eg]
      exact h1
    · have hf : F (ws.getD i .non) = true := hf
      show EvP R' m m te _ H' (is (gv (ws.getD i .non)))
      rw [eg] at hf ⊢
      exact h2 hf
  · obtain ⟨l, xs, rfl, h, g⟩ := hv
    refine ⟨l, xs, rfl, h, ?_⟩
    have e := paired_map (gv := fun i => gv (ws.getD i .non)) g
    rw [List.length_map] at e
    exact e.trans (sel V.non F gv ws)
/-- no filter, elements by their properties; each turn may take d draws -/
theorem ev_lcP {α : Type} {wi : TI} {vs : List Nat} {as : List α} {mv : α → V} {j : Nat} (d : Nat) (pe : α → SP) (hi : ItP R n (m + as.length * d) wi σ H (as.map fun a => is (mv a))) (hz : as.length ≤ 50000) (hw : ∀ x, wipe ((wipe σ vs).set j (some x)) vs = wipe σ vs)
    (hs : ∀ R' H' a k, Ext R H R' H' → a ∈ as → EvP R' (k + d) k te ((wipe σ vs).set j (some (mv a))) H' (pe a)) :
    EvP R n m (tLc wi (gName j) tYes te vs) σ H (lstP pe as) := by
  cases as with
  | nil =>
    rw [List.length_nil, Nat.zero_mul, Nat.add_zero] at hi
    refine (ev_lc (t := tYes) (te := te) (g := gName j) (vs := vs) (f := fun _ => true) (pe := fun i => is .non) (c := fun _ => m) hi (Nat.zero_le _) fun R' H' i y x ex hy hx => ?_).imp fun v H1 _ hv => ?_
    · cases hy
    · obtain ⟨l, xs, rfl, h, g⟩ := hv
      cases g
      exact ⟨l, [], rfl, h, .nil⟩
  | cons a0 as0 =>
    generalize hAS : a0 :: as0 = as at *
    have h := (ev_lc (R := R) (H := H) (σ := σ) (te := te) (g := gName j) (vs := vs) (t := tYes) (f := fun _ => true) (pe := fun i => pe (as.getD i a0)) (c := fun i => m + (as.length - i) * d) (n := n) hi (by rw [List.length_map]; exact hz) fun R' H' i y x ex hy hx => ?_)
    rw [List.length_map, Nat.sub_self, Nat.zero_mul, Nat.add_zero] at h
    refine h.imp fun v H1 _ hv => ?_
    · obtain ⟨l, xs, rfl, h, g⟩ := hv
      refine ⟨l, xs, rfl, h, ?_⟩
      have e := paired_sub (F := fun v a => (pe a).P R.M v H1) (m := fun i => as.getD i a0) g
      rw [List.filter_eq_self.mpr (fun _ _ => rfl), range_getD] at e
      exact e
    · rw [List.getElem?_map] at hy
      obtain ⟨a, ha, rfl⟩ := Option.map_eq_some_iff.mp hy
      have hx : x = mv a := hx
      subst hx
      have eg : as.getD i a0 = a := getD_of ha
      have hlt := (List.getElem?_eq_some_iff.mp ha).1
      refine ⟨_, fun Q q => q, hw _, _, fun H1 e Q k => k true H1 (R'.refl e) rfl, fun _ => ?_, fun z => nomatch z⟩
      show EvP R' _ _ te _ H' (pe (as.getD i a0))
      rw [eg]
      have e2 : m + (as.length - i) * d = (m + (as.length - (i + 1)) * d) + d := by
        have e3 : as.length - i = (as.length - (i + 1)) + 1 := by omega
        rw [e3, Nat.add_mul, Nat.one_mul, Nat.add_assoc]
      rw [e2]
      exact hs R' H' a _ ex (List.mem_of_getElem? ha)
/-- list(xs) -/
theorem ev_listOf {l : Addr} {xs : List V} (ha : EvP R n m te σ H (is (.ref l))) (hx : SqM K R.M H l xs) : EvP R n m (tCB (rListU K) (tCons te tNil)) σ H (lstG (· = xs)) :=
  ev_cb (ea_cons ha ea_nil) fun vs H1 e hv => by
    obtain ⟨v, rfl, h⟩ := one hv
    have h : v = .ref l := h
    subst h
    exact fun _ j Q k => ⟨l, xs, rfl, .inl (hx.st e.2).sq, fun n hn => k _ _ (R.new j hn) ⟨n, xs, rfl, ⟨upd_same, R.fresh j hn⟩, rfl⟩⟩
end
/-! ### defs of the text -/
section
variable {P : Program} {w : World} {K : PySem.W.Frag} {mg : Str → Option Value} {base : Heap}
/-- a def as the head tells it: it stands at its global name -/
structure Df (K : PySem.W.Frag) (mg : Str → Option Value) (x : Str) (st : Stmt) : Prop where
  ex : ∃ f fd, FunD K x x (defArgs st) (defBody st) (defScope st) [] [] f fd ∧ mg x = some (.ref f)
theorem Df.cal {x : Str} {st : Stmt} {N ps : List Str} {k : Nat} {sp : Sp} (F : Df K mg x st) (S : FnScope N ps (defScope st)) (len : ∀ vs H Q E, sp vs H Q E → vs.length = ps.length)
    (hbd : ∀ (kV doc pm : Value) (an : Option Addr) (cdv ct : Value) (us : List Value), us.length = ps.length → bindArgs (PySem.W.fnOf x x (defArgs st) (defBody st) (defScope st) .none kV doc pm an cdv ct) ⟨us, []⟩ = pure (ps.zip us))
    (hbody : ∀ (f : Addr) (cdv : Value) (A : Around) (outer : List Env) (s : Shared) (H : Hp) (vs : List V) (Q : VK) (E : XK), Room k (A.deeper (envOfC x (defScope st) s.heap.objs.size f cdv)) → sp vs H Q E →
      ∃ t, PSs (cxOf CX0 P w K mg base N x (defScope st) f cdv A outer s H E).nox (defBody st) t ∧ t { nx := fun _ H' => Q .non H', rt := Q } (start N vs) H) : Cal P w K mg base (k + 1) x ps sp := by
  obtain ⟨f, fd, F, hm⟩ := F.ex
  refine ⟨f, fd, F.ok S len fun cdv A outer s H vs Q E hr h => ?_, hm, F.kp, F.bindsN hbd, by
    obtain ⟨oc, od, _, _, _, _, _, _, _, osl, _, lk, _⟩ := F.ex
    exact ⟨oc, od, osl, lk⟩⟩
  obtain ⟨t, h1, h2⟩ := hbody f cdv A outer s H vs Q E hr h
  exact ⟨t, PSs.nox h1, h2⟩
end
/-- the law's own def -/
theorem FunD_fn {P : Program} {w : World} {K : PySem.W.Frag} {mg : Str → Option Value} {base : Heap} {x : Str} {st : Stmt} {N ps : List Str} {k : Nat} {sp : Sp} {f : Addr} {fd : FuncData} (F : FunD K x x (defArgs st) (defBody st) (defScope st) [] [] f fd) (S : FnScope N ps (defScope st)) (len : ∀ vs H Q E, sp vs H Q E → vs.length = ps.length)
    (hbody : ∀ (cdv : Value) (A : Around) (outer : List Env) (s : Shared) (H : Hp) (vs : List V) (Q : VK) (E : XK), Room k (A.deeper (envOfC x (defScope st) s.heap.objs.size f cdv)) → sp vs H Q E →
      ∃ t, PSs (cxOf CX0 P w K mg base N x (defScope st) f cdv A outer s H E).nox (defBody st) t ∧ t { nx := fun _ H' => Q .non H', rt := Q } (start N vs) H) : FnOk P w K mg base CX0 (k + 1) f fd ps sp :=
  F.ok S len fun cdv A outer s H vs Q E hr h => by
    obtain ⟨t, h1, h2⟩ := hbody cdv A outer s H vs Q E hr h
    exact ⟨t, PSs.nox h1, h2⟩
/-! ### promises: arguments, a relation, what is returned -/
/-- a def that changes nothing, by whatever relation the caller goes on: from arguments a: they stand as args tells, what comes has post -/
def pureSp {α : Type} (args : α → (Addr → Prop) → List V → Hp → Prop) (post : α → SP) : Sp := fun vs H Q _ => ∃ (R : Rel) (n : Nat) (a : α), R.J n H ∧ args a R.M vs H ∧ ∀ v H', R.ok n H H' → (post a).P R.M v H' → Q v H'
theorem ev_pure {α : Type} {args : α → (Addr → Prop) → List V → Hp → Prop} {post : α → SP} {R : Rel} {n m : Nat} {tar : TA} {ps : List SP} {σ : L2.St} {H : Hp} (x : α) (h : EvA R n m tar σ H ps)
    (ha : ∀ vs H1, R.ok m H H1 → Paired (fun v (p : SP) => p.P R.M v H1) vs ps → args x R.M vs H1) : EvP R n m (tCall (pureSp args post) [] E0 tar) σ H (post x) :=
  ev_call h fun vs H1 e hv Q f => ⟨R, m, x, e.1, ha vs H1 e hv, f⟩
/-- .. the arguments are known only when they have come -/
theorem ev_pureX {α : Type} {args : α → (Addr → Prop) → List V → Hp → Prop} {post : α → SP} {R : Rel} {n m : Nat} {tar : TA} {ps : List SP} {σ : L2.St} {H : Hp} {s : SP} (h : EvA R n m tar σ H ps)
    (ha : ∀ vs H1, R.ok m H H1 → Paired (fun v (p : SP) => p.P R.M v H1) vs ps → ∃ x, args x R.M vs H1 ∧ ∀ v H', (post x).P R.M v H' → s.P R.M v H') : EvP R n m (tCall (pureSp args post) [] E0 tar) σ H s :=
  ev_call h fun vs H1 e hv Q f => by
    obtain ⟨x, h1, h2⟩ := ha vs H1 e hv
    exact ⟨R, m, x, e.1, h1, fun v H' e' h' => f v H' e' (h2 v H' h')⟩
end My
namespace My
open PySem PySem.Spec PyProof.Rows L2
section
variable {R : Rel} {n m k : Nat} {K : PySem.W.Frag} {σ : L2.St} {H H' : Hp} {ta tb tc te : TE} {t u : TT} {x y z v : V} {p q s : SP} {D : Ends} {tu tw tz : TS} {g : TG} {a b : Codes}
theorem it_lstV {xs : List V} (ha : EvP R n m te σ H (lstG (· = xs))) : ItP R n m (iAny K te) σ H (xs.map is) := by
  refine it_lstP (K := K) (pe := is) (ys := xs) (ha.imp fun v H1 _ hv => ?_)
  obtain ⟨l, ws, e, h, rfl⟩ := hv
  exact ⟨l, ws, e, h, paired_self ws⟩
where
  paired_self {M : Addr → Prop} {H1 : Hp} : ∀ ws : List V, Paired (fun v y => (is y).P M v H1) ws ws
    | [] => .nil
    | w :: ws => .cons rfl (paired_self ws)
/-! ### methods of texts -/
theorem ev_lower (ha : EvP R n m te σ H (is (sv a))) (h : a.all (· < 128) = true) (hl : a.length ≤ 100000) : EvP R n m (tBM0 K "str" rLowerU te) σ H (is (sv (a.map PyProof.Rows.lo1))) :=
  ev_bmS0 (f := Txt.lower) ha (SX.lower_S h) fun H1 Q q => ⟨_, rfl, rfl, by rw [SX.S_len]; omega, q⟩
theorem ev_upper (ha : EvP R n m te σ H (is (sv a))) (h : a.all (· < 128) = true) (hl : a.length ≤ 100000) : EvP R n m (tBM0 K "str" rUpperU te) σ H (is (sv (a.map PyProof.Rows.up1))) :=
  ev_bmS0 (f := Txt.upper) ha (SX.upper_S h) fun H1 Q q => ⟨_, rfl, rfl, by rw [SX.S_len]; omega, q⟩
theorem map_sv (ls : List Codes) : (ls.map SX.S).map V.str = ls.map sv := List.map_map ..
theorem ev_split (ha : EvP R n m te σ H (is (sv a))) (hb : EvP R m k tb σ H (is (sv b))) (h : b ≠ []) (hk : b.all (· < 256) = true) (hl : a.length ≤ 100000) : EvP R n k (tBM K "str" rSplitU te (tCons tb tNil)) σ H (lstG (· = (TL.spl b 0 [] a).map sv)) :=
  ev_bmS1 ha hb fun v H1 e hv => by
    have hv : v = sv b := hv
    subst hv
    refine fun _ j Q k => ⟨_, _, rfl, rfl, ?_, ?_, fun l hl => ?_⟩
    · rw [SX.S_len]
      cases b with
      | nil => exact absurd rfl h
      | cons => rfl
    · rw [SX.S_len]
      exact Nat.le_trans (Nat.add_le_add_right hl 2) (by decide)
    · rw [SX.split_S h hk, map_sv]
      exact k _ _ (R.new j hl) ⟨l, _, rfl, ⟨upd_same, R.fresh j hl⟩, rfl⟩
theorem ev_join {G : List Codes → Prop} (ha : EvP R n m te σ H (is (sv a))) (hb : EvP R m k tb σ H (lstG fun xs => ∃ ls, xs = ls.map sv ∧ G ls)) (hz : ∀ ls, G ls → (ls.map (·.length)).sum + ls.length * a.length ≤ 1000000) : EvP R n k (tBM K "str" (rJoinU K) te (tCons tb tNil)) σ H (sat fun v => ∃ ls, G ls ∧ v = sv (TL.joinL a ls)) :=
  ev_bmS1 ha hb fun v H1 e hv => by
    obtain ⟨l, xs, rfl, h, ls, rfl, g⟩ := hv
    refine fun _ j Q k => ⟨_, l, ls.map SX.S, rfl, rfl, .inl ?_, ?_, ?_⟩
    · rw [map_sv]
      exact h.sq
    · rw [SX.lens, List.length_map, SX.S_len]
      exact Nat.le_trans (hz ls g) (by decide)
    · rw [SX.join_S]
      exact k _ H1 (R.self j) ⟨ls, g, rfl⟩
theorem ev_joinV {ls : List Codes} (ha : EvP R n m te σ H (is (sv a))) (hb : EvP R m k tb σ H (lstG (· = ls.map sv))) (hz : (ls.map (·.length)).sum + ls.length * a.length ≤ 1000000) : EvP R n k (tBM K "str" (rJoinU K) te (tCons tb tNil)) σ H (is (sv (TL.joinL a ls))) :=
  (ev_join (G := (· = ls)) ha (hb.imp fun v H1 _ ⟨l, xs, e, h, g⟩ => ⟨l, xs, e, h, ls, g, rfl⟩) (fun ls' e => by subst e; exact hz)).imp fun v H1 _ ⟨ls', e, h⟩ => by subst e; exact h
/-! ### lists -/
theorem ev_cat {F G : List V → Prop} (ha : EvP R n m ta σ H (lstG F)) (hb : EvP R m k tb σ H (lstG G)) (hz : ∀ xs ys, F xs → G ys → xs.length + ys.length ≤ 100000) : EvP R n k (tOp (rAddU K) ta tb) σ H (lstG fun zs => ∃ xs ys, F xs ∧ G ys ∧ zs = xs ++ ys) :=
  ev_op ha hb fun v w H1 e hv hw _ j Q f => by
    obtain ⟨l, xs, rfl, h1, g1⟩ := hv
    obtain ⟨l2, ys, rfl, h2, g2⟩ := hw
    exact .inr (.inr (.inl ⟨l, l2, xs, ys, rfl, rfl, h1.1, h2.1, Evl.sz_of (hz xs ys g1 g2), fun p hp => f _ _ (R.new j hp) ⟨p, _, rfl, ⟨upd_same, R.fresh j hp⟩, xs, ys, g1, g2, rfl⟩⟩))
theorem ev_catV {xs ys : List V} (ha : EvP R n m ta σ H (lstG (· = xs))) (hb : EvP R m k tb σ H (lstG (· = ys))) (hz : xs.length + ys.length ≤ 100000) : EvP R n k (tOp (rAddU K) ta tb) σ H (lstG (· = xs ++ ys)) :=
  (ev_cat ha hb fun a b ea eb => by subst ea; subst eb; exact hz).imp fun v H1 _ ⟨l, zs, e, h, a, b, ea, eb, ez⟩ => ⟨l, zs, e, h, by subst ea; subst eb; exact ez⟩
theorem atI_mem {α : Type} {xs : List α} {i : Int} (h0 : 0 ≤ i) (h1 : i < xs.length) : ∃ x, atI xs i = some x ∧ xs[i.toNat]? = some x := by
  have hj : i.toNat < xs.length := by omega
  refine ⟨xs[i.toNat], ?_, List.getElem?_eq_getElem hj⟩
  unfold atI ixN
  rw [if_pos h0, if_pos h1]
  exact List.getElem?_eq_getElem hj
/-- an item of a list at some place in it -/
theorem ev_ixG {F : List V → Prop} {Gi : V → Prop} (ha : EvP R n m ta σ H (lstG F)) (hb : EvP R m k tb σ H (sat Gi)) (h : ∀ xs v, F xs → Gi v → ∃ i, v = .int i ∧ 0 ≤ i ∧ i < xs.length) : EvP R n k (tOp (rIx K) ta tb) σ H (sat fun v => ∃ xs, F xs ∧ v ∈ xs) :=
  ev_op ha hb fun v w H1 e hv hw _ j Q f => by
    obtain ⟨l, xs, rfl, h1, g1⟩ := hv
    obtain ⟨i, rfl, h0, h2⟩ := h xs w g1 hw
    obtain ⟨y, hy, hy2⟩ := atI_mem h0 h2
    exact .inl ⟨l, xs, i, y, rfl, rfl, h1.sq, hy, f y H1 (R.self j) ⟨xs, g1, List.mem_of_getElem? hy2⟩⟩
/-- a sign of a text at some place in it -/
theorem ev_ixSG {Gi : V → Prop} (ha : EvP R n m ta σ H (is (sv a))) (hb : EvP R m k tb σ H (sat Gi)) (hl : a.length ≤ 100000) (h : ∀ v, Gi v → ∃ i, v = .int i ∧ 0 ≤ i ∧ i < a.length) : EvP R n k (tOp (rIx K) ta tb) σ H (sat fun v => ∃ c, v = sv [c] ∧ c ∈ a) :=
  ev_op ha hb fun v w H1 e hv hw _ j Q f => by
    have hv : v = sv a := hv
    subst hv
    obtain ⟨i, rfl, h0, h2⟩ := h w hw
    obtain ⟨y, hy, hy2⟩ := atI_mem h0 h2
    exact .inr (.inr ⟨_, i, y, rfl, rfl, slen hl, hy, f _ H1 (R.self j) ⟨y, rfl, List.mem_of_getElem? hy2⟩⟩)
theorem EvP.asG {G : V → Prop} (h : EvP R n m te σ H (is v)) (g : G v) : EvP R n m te σ H (sat G) := h.imp fun w H1 _ e => by
  have e : w = v := e
  subst e
  exact g
theorem ev_is2 {xs ys : List V} (h : EvP R n m te σ H (lstG (· = xs))) (e : xs = ys) : EvP R n m te σ H (lstG (· = ys)) := by
  subst e
  exact h
/-! ### texts and numbers by their properties -/
abbrev tx (F : Codes → Prop) : SP := sat fun v => ∃ s, v = sv s ∧ F s
abbrev nt (F : Int → Prop) : SP := sat fun v => ∃ i, v = .int i ∧ F i
theorem EvP.tx {F : Codes → Prop} (h : EvP R n m te σ H (is (sv a))) (g : F a) : EvP R n m te σ H (tx F) := h.asG ⟨a, rfl, g⟩
theorem EvP.nt {F : Int → Prop} {i : Int} (h : EvP R n m te σ H (is (.int i))) (g : F i) : EvP R n m te σ H (nt F) := h.asG ⟨i, rfl, g⟩
theorem EvP.txImp {F G : Codes → Prop} (h : EvP R n m te σ H (My.tx F)) (g : ∀ s, F s → G s) : EvP R n m te σ H (My.tx G) := h.imp fun v H1 _ ⟨s, e, f⟩ => ⟨s, e, g s f⟩
theorem EvP.ntImp {F G : Int → Prop} (h : EvP R n m te σ H (My.nt F)) (g : ∀ s, F s → G s) : EvP R n m te σ H (My.nt G) := h.imp fun v H1 _ ⟨s, e, f⟩ => ⟨s, e, g s f⟩
theorem ev_addT {F G : Codes → Prop} (ha : EvP R n m ta σ H (tx F)) (hb : EvP R m k tb σ H (tx G)) (hz : ∀ x y, F x → G y → x.length + y.length ≤ 100000) : EvP R n k (tOp (rAddU K) ta tb) σ H (tx fun u => ∃ x y, F x ∧ G y ∧ u = x ++ y) :=
  ev_op ha hb fun v w H1 e hv hw nn j Q f => by
    obtain ⟨x, rfl, fx⟩ := hv
    obtain ⟨y, rfl, gy⟩ := hw
    exact rv_addS (K := K) (R := R) (H := H1) (a := x) (b := y) (hz x y fx gy) nn j Q fun z H2 e2 hz => f z H2 e2 ⟨_, hz, x, y, fx, gy, rfl⟩
theorem ev_addN {F G : Int → Prop} (ha : EvP R n m ta σ H (nt F)) (hb : EvP R m k tb σ H (nt G)) : EvP R n k (tOp (rAddU K) ta tb) σ H (nt fun u => ∃ x y, F x ∧ G y ∧ u = x + y) :=
  ev_op ha hb fun v w H1 e hv hw nn j Q f => by
    obtain ⟨x, rfl, fx⟩ := hv
    obtain ⟨y, rfl, gy⟩ := hw
    exact rv_addI (K := K) (R := R) (H := H1) (i := x) (j := y) nn j Q fun z H2 e2 hz => f z H2 e2 ⟨_, hz, x, y, fx, gy, rfl⟩
/-- a test of a drawn number -/
theorem et_eqN {F : Int → Prop} {j : Int} (ha : EvP R n m ta σ H (nt F)) (hb : EvP R m k tb σ H (is (.int j))) : EvT R n k (tTest (tOp (rEqU K) ta tb)) σ H (fun _ => True) := et_testG (ev_op ha hb fun v w H1 e hv hw nn jj Q f => by
    obtain ⟨x, rfl, fx⟩ := hv
    have hw : w = .int j := hw
    subst hw
    exact rv_eqI (K := K) (R := R) (H := H1) (i := x) (j := j) nn jj Q fun z H2 e2 hz => f z H2 e2 ⟨_, hz, trivial⟩)
theorem et_gtN {F : Int → Prop} {j : Int} (ha : EvP R n m ta σ H (nt F)) (hb : EvP R m k tb σ H (is (.int j))) : EvT R n k (tTest (tOp rGtU ta tb)) σ H (fun _ => True) := et_testG (ev_op ha hb fun v w H1 e hv hw nn jj Q f => by
    obtain ⟨x, rfl, fx⟩ := hv
    have hw : w = .int j := hw
    subst hw
    exact rv_gtI (R := R) (H := H1) (i := x) (j := j) nn jj Q fun z H2 e2 hz => f z H2 e2 ⟨_, hz, trivial⟩)
/-! ### what is walked comes of an expression -/
theorem for_bindR (h : EvP R n m te σ H p) (f : ∀ v H1, R.ok m H H1 → p.P R.M v H1 → StF R m (tFor (iRng1 (tCons (tC v) tNil)) g tu) D σ H1) : StF R n (tFor (iRng1 (tCons te tNil)) g tu) D σ H := fun H1 e =>
  h H1 e _ fun v H2 e2 hv => (f v H2 (R.trans e e2) hv).run e2.1
theorem forq_bindR (h : EvP R n m te σ H p) (f : ∀ v H1, R.ok m H H1 → p.P R.M v H1 → StF R m (tSeq (tFor (iRng1 (tCons (tC v) tNil)) g tu) tz) D σ H1) : StF R n (tSeq (tFor (iRng1 (tCons te tNil)) g tu) tz) D σ H := fun H1 e =>
  h H1 e _ fun v H2 e2 hv => (f v H2 (R.trans e e2) hv).run e2.1
theorem lc_bindR {vs : List Nat} (h : EvP R n m te σ H p) (f : ∀ v H1, R.ok m H H1 → p.P R.M v H1 → EvP R m k (tLc (iRng1 (tCons (tC v) tNil)) g t tb vs) σ H1 s) : EvP R n k (tLc (iRng1 (tCons te tNil)) g t tb vs) σ H s := fun H1 e Q q =>
  h H1 e _ fun v H2 e2 hv => f v H2 (R.trans e e2) hv H2 (R.refl e2) Q fun w H3 e3 hw => q w H3 (R.trans e2 e3) hw
theorem it_any {ys : List SP} (h : ItP R n m (iList K te) σ H ys) : ItP R n m (iAny K te) σ H ys := fun H1 e Rk k => .inl (h H1 e Rk k)
theorem it_list0 {l : Addr} {xs : List V} (ha : EvP R n m te σ H (is (.ref l))) (hx : SqM K R.M H l xs) : ItP R n m (iList K te) σ H (xs.map is) := fun H1 e Rk k => ha H1 e _ fun v H2 e2 hv => by
  have hv : v = .ref l := hv
  subst hv
  have h2 := hx.st (R.trans e e2).2
  refine ⟨l, rfl, ⟨xs, h2.sq⟩, k _ H2 e2 ⟨fun M' i H' e' hi => ?_, fun M' i H' x H'' e' _ hi hy => ?_, fun M' H' e' => ?_⟩⟩
  · rw [List.length_map] at hi
    exact ⟨xs, _, ((h2.lift e'.w).st e'.pr).sq, List.getElem?_eq_getElem hi⟩
  · obtain ⟨rfl, f⟩ := hy
    refine ⟨Evl.Ex.refl _, fun y hy => ?_⟩
    have q := f _ ((h2.lift e'.w).st e'.pr).sq
    rw [List.getElem?_map, q] at hy
    cases hy
    rfl
  · exact ⟨xs, ((h2.lift e'.w).st e'.pr).sq, by rw [List.length_map]; exact Nat.le_refl _⟩
/-- for over a list that an expression makes; the relation may be chosen then -/
theorem for_bindL {n2 : Nat} (h : EvP R n m te σ H p) (f : ∀ v H1, R.ok m H H1 → p.P R.M v H1 → ∃ R2 n2, R2.J n2 H1 ∧ StF R2 n2 (tFor (iList K (tC v)) g tu) D σ H1) : StF R n (tFor (iAny K te) g tu) D σ H := fun H1 e => by
  have h2 : tFor (iList K te) g tu D σ H1 := h H1 e _ fun v H2 e2 hv => by
    obtain ⟨R2, n2, j, s⟩ := f v H2 (R.trans e e2) hv
    exact s.run j
  exact .inl h2
theorem ev_strip0 {f : Codes} (ha : EvP R n m te σ H (is (sv a))) (hb : EvP R m k tb σ H (is (sv b))) (hf : f = cs (Txt.stripChars (SX.S a) (SX.S b))) (hl : a.length ≤ 100000) : EvP R n k (tBM K "str" rStripU te (tCons tb tNil)) σ H (is (sv f)) :=
  ev_bmS1 ha hb fun v H1 e hv => by
    have hv : v = sv b := hv
    subst hv
    refine rm_now fun Q q => ⟨_, _, rfl, rfl, slen hl, ?_⟩
    have e : V.str (Txt.stripChars (SX.S a) (SX.S b)) = sv f := (sv_of _).trans (by rw [hf])
    rw [e]
    exact q
theorem ev_find (ha : EvP R n m te σ H (is (sv a))) (hb : EvP R m k tb σ H (is (sv b))) : EvP R n k (tBM K "str" rFindU te (tCons tb tNil)) σ H (is (.int (Txt.find (SX.S a) (SX.S b)))) :=
  ev_bmS1 ha hb fun v H1 e hv => by
    have hv : v = sv b := hv
    subst hv
    exact rm_now fun Q q => .inl ⟨_, _, rfl, rfl, q⟩
/-! ### xs.append(e), the list at l holds xs -/
theorem s_appA {l : Addr} {xs : List V} {i : Nat} (hi : σ[i]? = some (some (.ref l))) (he : EvP (R.at l xs) n m te σ H q) (hz : xs.length < 100000) (f : ∀ v H1, (R.at l xs).ok m H H1 → q.P (R.at l xs).M v H1 → D.nx σ (upd H1 l (.lst (xs ++ [v])))) : StF (R.at l xs) n (tDrop (tBM K "list" rAppend (tVar i) (tCons te tNil))) D σ H := fun H1 e =>
  ⟨.ref l, hi, .inl ⟨rfl, xs, .inl (.inl e.1.2)⟩, he H1 e _ fun v H2 e2 hv => ⟨l, xs, v, rfl, rfl, e2.1.2, Evl.sz_lt hz, f v H2 ((R.at l xs).trans e e2) hv⟩⟩
/-- .. the relation behind it, by which the list may change -/
theorem app_off {l : Addr} {xs ys : List V} {B : Hp} {c : Nat} (hB : (R.off l).ok c B H) (e : (R.at l xs).ok m H H') (hm : ¬ R.M l) : (R.off l).ok m B (upd H' l (.lst ys)) :=
  ⟨⟨R.put e.1.1 hm, ys, upd_same⟩, hB.2.trans (e.2.trans (pres.upd (.inr rfl)))⟩
theorem off_at {l : Addr} {xs : List V} {c : Nat} (j : (R.off l).J c H) (h : H l = some (.lst xs)) : (R.at l xs).J c H := ⟨j.1, h⟩
/-! ### displays of texts by a property -/
theorem paired_all {M : Addr → Prop} {F : V → Prop} : ∀ {vs : List V} {k : Nat}, Paired (fun v (p : SP) => p.P M v H) vs (List.replicate k (sat F)) → vs.length = k ∧ ∀ v ∈ vs, F v
  | _, 0, .nil => ⟨rfl, fun v h => by cases h⟩
  | _, k + 1, .cons a b => by
    obtain ⟨h1, h2⟩ := paired_all b
    refine ⟨by rw [List.length_cons, h1], fun v hv => ?_⟩
    rcases List.mem_cons.mp hv with rfl | hv
    · exact a
    · exact h2 v hv
theorem ev_lstR {tar : TA} {F : V → Prop} {c : Nat} (h : EvA R n m tar σ H (List.replicate c (sat F))) (hc : c ≤ 100000) : EvP R n m (tLst tar) σ H (lstG fun xs => xs.length = c ∧ ∀ v ∈ xs, F v) :=
  (ev_lst h (by rw [List.length_replicate]; exact hc)).imp fun v H1 _ ⟨l, xs, e, h, g⟩ => ⟨l, xs, e, h, paired_all g⟩
theorem ev_max2 {i j : Int} (ha : EvP R n m ta σ H (is (.int i))) (hb : EvP R m k tb σ H (is (.int j))) : EvP R n k (tCB (fun xs H Q => ∃ i j, xs = [V.int i, .int j] ∧ Q (.int (if j > i then j else i)) H) (tCons ta (tCons tb tNil))) σ H (is (.int (if j > i then j else i))) :=
  ev_cb (ea_cons ha (ea_cons hb ea_nil)) fun vs H1 e hv => by
    obtain ⟨v, w, rfl, h1, h2⟩ := two hv
    have h1 : v = .int i := h1
    have h2 : w = .int j := h2
    subst h1; subst h2
    exact rc_now fun _ q => ⟨i, j, rfl, q⟩
theorem ev_sliceT {F : Codes → Prop} {lo hi : Option Int} {tl th : TO} {j : Nat} (ha : EvP R n m te σ H (tx F)) (hl : EvO R m k tl σ H (fun o => o = lo)) (hh : EvO R k j th σ H (fun o => o = hi)) (hz : ∀ x, F x → x.length ≤ 100000) : EvP R n j (tSl (rSlU K) te tl th) σ H (tx fun u => ∃ x, F x ∧ u = sl x lo hi) :=
  ev_sl ha hl hh fun v H1 _ hv nn jj Q f => by
    obtain ⟨x, rfl, hx⟩ := hv
    exact rs_S (K := K) (R := R) (hz x hx) nn jj Q fun z H2 e2 hz => f z H2 e2 ⟨_, hz, x, hx, rfl⟩
theorem StF.seq {ts : TS} (h : StF R n ts { D with nx := tz D } σ H) : StF R n (tSeq ts tz) D σ H := h
/-! ### new lists, known to be new -/
def EvN (R : Rel) (n m : Nat) (te : TE) (σ : L2.St) (H : Hp) (G : List V → Prop) : Prop := ∀ H1, R.ok n H H1 → ∀ Q : VK, (∀ l H2 xs, R.ok m H1 H2 → H1 l = none → LtM R.M H2 l xs → G xs → Q (.ref l) H2) → te σ H1 Q
theorem old_none {l : Addr} (e : R.ok n H H') (h : H' l = none) : H l = none := by
  cases h0 : H l with
  | none => rfl
  | some o =>
    by_cases hm : R.M l
    · exact absurd h (R.alive e.1 hm)
    · rw [e.2 l o hm h0] at h
      cases h
theorem ev_lstN {tar : TA} {ps : List SP} {G : List V → Prop} (h : EvA R n m tar σ H ps) (hl : ps.length ≤ 100000) (hG : ∀ vs H1, Paired (fun v (p : SP) => p.P R.M v H1) vs ps → G vs) : EvN R n m (tLst tar) σ H G := fun H1 e Q f =>
  h H1 e _ fun vs H2 e2 hv => ⟨by rw [hv.length]; exact Evl.sz_of hl, fun l hl => f l _ vs (R.trans e2 (R.new e2.1 hl)) (old_none e2 hl) ⟨upd_same, R.fresh e2.1 hl⟩ (hG vs H2 hv)⟩
theorem ev_lstNV {tar : TA} {vs : List V} (h : EvA R n m tar σ H (vs.map is)) (hl : vs.length ≤ 100000) : EvN R n m (tLst tar) σ H (· = vs) := ev_lstN h (by rw [List.length_map]; exact hl) fun _ _ hv => paired_is hv
theorem q_asgN {i : Nat} {G : List V → Prop} (h : EvN R n m te σ H G) (f : ∀ l H1 xs, R.ok m H H1 → H l = none → LtM R.M H1 l xs → G xs → StF R m tz D (σ.set i (some (.ref l))) H1) : StF R n (tSeq (tAsg te (gName i)) tz) D σ H := fun H1 e =>
  h H1 e _ fun l H2 xs e2 hn hl g => (f l H2 xs (R.trans e e2) (old_none e hn) hl g).run e2.1
theorem q_parN {i j : Nat} {G : List V → Prop} (ha : EvP R n m ta σ H p) (hb : EvN R m k tb σ H G) (f : ∀ v l H1 xs, R.ok k H H1 → H l = none → p.P R.M v H1 → LtM R.M H1 l xs → G xs → StF R k tz D ((σ.set i (some v)).set j (some (.ref l))) H1) : StF R n (tSeq (tPar i j (tCons ta (tCons tb tNil))) tz) D σ H := fun H1 e =>
  ha H1 e _ fun v H2 e2 hv => hb H2 (R.trans e e2) _ fun l H3 xs e3 hn hl g => ⟨_, _, rfl, (f v l H3 xs (R.trans (R.trans e e2) e3) (old_none (R.trans e e2) hn) (p.st e3.2 hv) hl g).run e3.1⟩
/-- behind a loop in which a new list grew -/
theorem off_back {l : Addr} {c d : Nat} {B : Hp} (e1 : R.ok n H B) (hn : H l = none) (e : (R.off l).ok c B H') (hd : d ≤ c) : R.ok d H H' := ⟨R.dec e.1.1 hd, fun a o ma ha => by
  have ne : a ≠ l := fun z => by rw [z, hn] at ha; cases ha
  exact e.2 a o (fun z => z.elim ma ne) (e1.2 a o ma ha)⟩
end
end My
namespace My
open PySem PySem.Spec PyProof.Rows L2
/-! ### for i, c in enumerate(a text) -/
def Ies (x : Str) : It := ⟨fun i _ => i < x.cps.size, fun i H v H' => ∃ T c, v = .ref T ∧ H T = none ∧ H' = upd H T (.tup [.int (i : Nat), .str ⟨#[c]⟩]) ∧ x.cps[i]? = some c, fun i _ => x.cps.size ≤ i⟩
theorem turn_enumS {P : Program} {w : World} {K : PySem.W.Frag} {elts : List Expr} {kk : Nat} {tpos : Pos} (x : Str) (t : Tok) (e it : Addr) :
    Turn P w K (.Tuple elts kk tpos) (Ies x) [e, it] e (fun i h => (∃ old, IsEnum h e it ((i : Nat) : Int) old) ∧ h.IsStrIter it (strIterType x) x t i ∧ e ≠ it ∧ i ≤ x.cps.size) where
  mem := by simp
  obj := fun i h st b hb => by
    obtain ⟨⟨old, he⟩, ⟨o, ho, hc, hd⟩, _⟩ := st
    have e' : b = e ∨ b = it := by simpa using hb
    rcases e' with z | z
    · rw [z]; exact ⟨_, he, fun v q => nomatch q⟩
    · rw [z]; exact ⟨o, ho, fun v q => by rw [hd] at q; cases q⟩
  keep := fun i h h' st k => by
    obtain ⟨⟨old, he⟩, ⟨o, ho, r⟩, hne, hl⟩ := st
    exact ⟨⟨old, k e (by simp) _ he⟩, ⟨o, k it (by simp) o ho, r⟩, hne, hl⟩
  item := by
    intro X hP hw hK hc i pins s σ H E I hf st hg
    subst hP hw hK
    obtain ⟨⟨old, he⟩, hit, hne, hl⟩ := st
    have hel : e < s.heap.objs.size := Heap.lt_size he
    have hil : it < s.heap.objs.size := by obtain ⟨_, q, _⟩ := hit; exact Heap.lt_size q
    have hh : X.A.in1.handled = none := I.ok.hd hc
    refine wpAny_pyNext_enum_itemD (Draws.text hh it x t) he hit hg hne (by simpa using hne) fun u h' tk hPx ho hit' hT hsz hk => ?_
    obtain ⟨c, tc, hcx, rfl⟩ := hPx
    refine ⟨_, rfl, wpAny_letOwnedTupleGo_enum (s := { s with heap := h', toks := tk + 1 }) ho fun h'' he' sb => ?_⟩
    have hT2 : h''.get? s.heap.objs.size = some { cls := .type "tuple", data := .seq #[.int i tk, .str ⟨#[c]⟩ tc] } := (sb.2 _ (Nat.ne_of_gt hel)).trans hT
    have new : ObjOk X.prog X.w (upd H s.heap.objs.size (.tup [.int (i : Nat), .str ⟨#[c]⟩])) h'' s.heap.objs.size (.tup [.int (i : Nat), .str ⟨#[c]⟩]) :=
      ⟨by show 2 ≤ sizeLine; decide, [.int i tk, .str ⟨#[c]⟩ tc], .cons ⟨_, rfl⟩ (.cons ⟨_, rfl⟩ .nil), ⟨_, hT2, rfl, _, rfl⟩⟩
    have I1 : Inv X pins σ (upd H s.heap.objs.size (.tup [.int (i : Nat), .str ⟨#[c]⟩])) { s with heap := h'', toks := tk + 1 } :=
      I.turnedNew (ch := [e, it]) (fun b ob hb q => (sb.2 b (fun z => hb (by simp [z]))).trans (hk b ob (fun z => hb (by simp [z])) (fun z => hb (by simp [z])) q)) hf (Nat.le_refl _) new
    refine ⟨.ref s.heap.objs.size, _, I1, rfl, ⟨_, c, rfl, I.hok.fresh (Nat.le_refl _), rfl, hcx⟩, ⟨⟨.str ⟨#[c]⟩ tc, ?_⟩, ?_, hne, hg⟩, fun b hb => ?_⟩
    · have e1 : ((i + 1 : Nat) : Int) = (i : Int) + 1 := by omega
      rw [e1]; exact he'
    · obtain ⟨o, ho2, r⟩ := hit'
      exact ⟨o, (sb.2 it (Ne.symm hne)).trans ho2, r⟩
    · have hb' : b < s.heap.objs.size := by
        have e' : b = e ∨ b = it := by simpa using hb
        rcases e' with z | z
        · rw [z]; exact hel
        · rw [z]; exact hil
      rw [upd_ne (Nat.ne_of_lt hb')]
      exact (hf b hb).1
  done := by
    intro X hP hw hK hc i pins s σ H E I hf st hg
    subst hP hw hK
    obtain ⟨⟨old, he⟩, hit, hne, hl⟩ := st
    obtain ⟨f0, f1, f2, f3, f4, f5⟩ := hf it (by simp)
    have hi : i = x.cps.size := Nat.le_antisymm hl hg
    subst hi
    have hh : X.A.in1.handled = none := I.ok.hd hc
    exact wpAny_pyNext_enum_endD (Draws.text hh it x t) he hit fun h' eb => ⟨rfl, I.turned (t' := s.toks) (fun b o hb q => eb b o hb q) f0 f1 f3 f4 f5⟩
  self := fun A i s Q E st h => let ⟨⟨_, he⟩, _⟩ := st; wpAny_pyIter_enum he h
def iEnumS (ta : TA) : TI := fun σ H R => ta σ H fun vs H1 => ∃ x, vs = [.str x] ∧ R (Ies x) H1
theorem pi_enumS {X : Cx} {e : Expr} {ta : TA} {p pos tpos : Pos} {elts : List Expr} {kk : Nat} (hg : Gl X "enumerate") (hm : X.mg "enumerate" = none) (ha : PA X [e] ta) (hs : starEach [e] X.env = [(false, eval e X.env)] := by rfl) :
    PI X (.Tuple elts kk tpos) (.Call (.Name "enumerate" p) [e] [] pos) (iEnumS ta) := by
  refine ⟨fun pins s σ H R I h => ?_⟩
  refine Call_ (ld_blt I hg hm boot_enumerate (PyProof.Rows.callWith_type1 (thn (ha.run pos pins s σ H _ I h) fun us s1 ⟨vs, H1, I1, r1, q1⟩ => ?_) hs rfl))
  obtain ⟨x, ex, q⟩ := q1
  subst ex
  cases r1 with
  | cons r rr =>
    cases rr
    obtain ⟨t, rfl⟩ := r
    refine call_enumerate_str fun h' he hit hsz hk => wpAny_pyIter_enum he ?_
    have I2 : Inv X pins σ H1 { s1 with heap := h' } := I1.kept (t' := s1.toks) hk
    refine ⟨s1.heap.objs.size + 1, [s1.heap.objs.size + 1, s1.heap.objs.size], _, _, H1, rfl, I2, turn_enumS x t (s1.heap.objs.size + 1) s1.heap.objs.size, ⟨⟨.none, he⟩, hit, Nat.succ_ne_self _, Nat.zero_le _⟩, fun b hb => ?_, q⟩
    have e' : b = s1.heap.objs.size + 1 ∨ b = s1.heap.objs.size := by simpa using hb
    have hle : s1.heap.objs.size ≤ b := by
      rcases e' with z | z
      · rw [z]; exact Nat.le_add_right _ _
      · rw [z]; exact Nat.le_refl _
    exact I1.fpOk hle (I1.hok.fresh hle)
def iEnumU (K : PySem.W.Frag) (ta : TA) : TI := fun σ H R => iEnumS ta σ H R ∨ iEnum K ta σ H R
theorem pi_enumA {X : Cx} {K : PySem.W.Frag} {e : Expr} {ta : TA} {p pos tpos : Pos} {elts : List Expr} {kk : Nat} (hg : Gl X "enumerate") (hm : X.mg "enumerate" = none) (ha : PA X [e] ta) (hs : starEach [e] X.env = [(false, eval e X.env)] := by rfl) (hK : X.K = K := by rfl) :
    PI X (.Tuple elts kk tpos) (.Call (.Name "enumerate" p) [e] [] pos) (iEnumU K ta) := hK ▸ PI_or (pi_enumS hg hm ha hs) (pi_enum hg hm ha hs)
end My
namespace My
open PySem PySem.Spec PyProof.Rows L2
section
variable {R : Rel} {n m k : Nat} {K : PySem.W.Frag} {σ : L2.St} {H H' : Hp} {ta tb tc te : TE} {t u : TT} {x y z v : V} {p q s : SP} {D : Ends} {tu tw tz : TS} {g : TG} {a b : Codes}
/-! ### enumerate(text) -/
theorem it_enum (ha : EvP R n m te σ H (is (sv a))) : ItP R n m (iEnumU K (tCons te tNil)) σ H ((List.range a.length).map fun i => tupG K (· = [.int (i : Nat), sv [a.getD i 0]])) := fun H1 e Rk k => .inl (ha H1 e _ fun v H2 e2 hv => by
  have hv : v = sv a := hv
  subst hv
  have sz : (SX.S a).cps.size = a.length := by simp [SX.S]
  refine ⟨SX.S a, rfl, k _ H2 e2 ⟨fun M' i H' e' hi => ?_, fun M' i H' x H'' e' hM hi hy => ?_, fun M' H' e' => ?_⟩⟩
  · rw [List.length_map, List.length_range] at hi
    show i < (SX.S a).cps.size
    rw [sz]
    exact hi
  · obtain ⟨T, c, rfl, hT, rfl, hc⟩ := hy
    refine ⟨Evl.Ex.new hT, fun y hy => ?_⟩
    have hc2 : a[i]? = some c := by
      rw [← hc]
      simp [SX.S]
    rw [List.length_map, List.length_range] at hi
    rw [List.getElem?_map, List.getElem?_range hi] at hy
    cases hy
    exact ⟨T, _, rfl, .of upd_same (fun z => hM T z hT), by rw [getD_of hc2]⟩
  · show (SX.S a).cps.size ≤ _
    rw [sz, List.length_map, List.length_range]
    exact Nat.le_refl _)
/-- for i, c in enumerate(text): the slots alone -/
theorem s_forE {i j : Nat} (ha : EvP R n n te σ H (is (sv a))) (Iv : Nat → L2.St → Prop) (h0 : Iv 0 σ)
    (hs : ∀ B r c σ', R.ok n H B → a[r]? = some c → Iv r σ' → StF R n tu (LE R n B D (Iv (r + 1))) ((σ'.set i (some (.int (r : Nat)))).set j (some (sv [c]))) B) (hd : ∀ σ' H', R.ok n H H' → Iv a.length σ' → D.nx σ' H') : StF R n (tFor (iEnumU K (tCons te tNil)) (gTup K 2 (gCons (gName i) (gCons (gName j) gNil))) tu) D σ H :=
  s_for (c := fun _ => n) (it_enum (K := K) ha) (fun B r σ' H' => R.ok n B H' ∧ Iv r σ') (fun _ _ _ _ h => h.1) (fun B e => ⟨R.refl e, h0⟩) (fun B r y σ' H' x H'' eb hy hp er hx => by
    rw [List.getElem?_map] at hy
    obtain ⟨w, hw, rfl⟩ := Option.map_eq_some_iff.mp hy
    have hlt : r < a.length := by
      have := (List.getElem?_eq_some_iff.mp hw).1
      rw [List.length_range] at this
      exact this
    rw [List.getElem?_range hlt] at hw
    cases hw
    obtain ⟨T, xs, rfl, hT, rfl⟩ := hx
    have hc : a[r]? = some a[r] := List.getElem?_eq_getElem hlt
    refine ⟨T, _, rfl, hT.sq, rfl, _, _, rfl, _, _, rfl, rfl, ?_⟩
    rw [getD_of hc]
    exact hs B r _ σ' eb hc hp.2 H'' (R.trans hp.1 (R.ex hp.1.1 er))) (fun B σ' H' eb hp => by
      rw [List.length_map, List.length_range] at hp
      exact hd σ' H' (R.trans eb hp.1) hp.2)
theorem q_forE {i j : Nat} (ha : EvP R n n te σ H (is (sv a))) (Iv : Nat → L2.St → Prop) (h0 : Iv 0 σ)
    (hs : ∀ B r c σ', R.ok n H B → a[r]? = some c → Iv r σ' → StF R n tu (LE R n B { D with nx := tz D } (Iv (r + 1))) ((σ'.set i (some (.int (r : Nat)))).set j (some (sv [c]))) B) (hd : ∀ σ', Iv a.length σ' → StF R n tz D σ' H) : StF R n (tSeq (tFor (iEnumU K (tCons te tNil)) (gTup K 2 (gCons (gName i) (gCons (gName j) gNil))) tu) tz) D σ H :=
  s_forE (D := { D with nx := tz D }) ha Iv h0 hs fun σ' H' e hv => hd σ' hv H' e
/-! ### all, isinstance, text times number -/
theorem ev_all {bs : List Bool} (ha : EvP R n m te σ H (lstG (· = bs.map V.bl))) : EvP R n m (tCB (rAll K) (tCons te tNil)) σ H (is (.bl (bs.all id))) := ev_cb (ea_cons ha ea_nil) fun vs H1 e hv => by
  obtain ⟨v, rfl, l, xs, rfl, h, rfl⟩ := one hv
  exact rc_now fun _ q => ⟨l, bs, rfl, h.sq, q⟩
theorem ev_isStr (ha : EvP R n m ta σ H (is (sv a))) : EvP R n m (tCB (rIsi K) (tCons ta (tCons (tC (.ty "str")) tNil))) σ H (is (.bl true)) :=
  ev_isi (uv := .type "str") (tv := .type "str") ha ev_c (.ty _) (fun v H1 _ hv => by
    have hv : v = sv a := hv
    subst hv
    exact .base (.str _)) rfl
/-- the values that are no texts -/
def NoStr (K : PySem.W.Frag) (M : Addr → Prop) (v : V) (H : Hp) : Prop := v = .non ∨ (∃ i, v = .int i) ∨ (∃ c, v = .bl c) ∨ (∃ l xs, v = .ref l ∧ H l = some (.lst xs) ∧ ¬ M l) ∨ (∃ l xs, v = .ref l ∧ H l = some (.tup xs) ∧ ¬ M l) ∨ ∃ l, v = .ref l ∧ H l = some (.dK []) ∧ ¬ M l
theorem lv_lift {M M' : Addr → Prop} {l : Addr} {o : HO} (w : ∀ a, M' a → M a ∨ H a = none) (h : H l = some o) (m : ¬ M l) : ¬ M' l := fun z => (w l z).elim m fun e => by rw [e] at h; cases h
def noStr (K : PySem.W.Frag) : SP := ⟨fun M v H => NoStr K M v H, fun e h => by
    rcases h with h | h | h | ⟨l, xs, rfl, h, m⟩ | ⟨l, xs, rfl, h, m⟩ | ⟨l, rfl, h, m⟩
    · exact .inl h
    · exact .inr (.inl h)
    · exact .inr (.inr (.inl h))
    · exact .inr (.inr (.inr (.inl ⟨l, xs, rfl, e l _ m h, m⟩)))
    · exact .inr (.inr (.inr (.inr (.inl ⟨l, xs, rfl, e l _ m h, m⟩))))
    · exact .inr (.inr (.inr (.inr (.inr ⟨l, rfl, e l _ m h, m⟩)))), fun w h => by
    rcases h with h | h | h | ⟨l, xs, rfl, h, m⟩ | ⟨l, xs, rfl, h, m⟩ | ⟨l, rfl, h, m⟩
    · exact .inl h
    · exact .inr (.inl h)
    · exact .inr (.inr (.inl h))
    · exact .inr (.inr (.inr (.inl ⟨l, xs, rfl, h, lv_lift w h m⟩)))
    · exact .inr (.inr (.inr (.inr (.inl ⟨l, xs, rfl, h, lv_lift w h m⟩))))
    · exact .inr (.inr (.inr (.inr (.inr ⟨l, rfl, h, lv_lift w h m⟩))))⟩
theorem NoStr.ty {M : Addr → Prop} (h : NoStr K M v H) : ∃ tv, TyX K H v tv ∧ PySem.W.kitOne K tv (.type "str") = some false := by
  rcases h with rfl | ⟨i, rfl⟩ | ⟨c, rfl⟩ | ⟨l, xs, rfl, h, _⟩ | ⟨l, xs, rfl, h, _⟩ | ⟨l, rfl, h, _⟩
  · exact ⟨_, .base .non, by rfl⟩
  · exact ⟨_, .base (.int i), by rfl⟩
  · exact ⟨_, .base (.bl c), by rfl⟩
  · exact ⟨_, .base (.lst h), by rfl⟩
  · exact ⟨_, .base (.tup h), by rfl⟩
  · exact ⟨_, .base (.dK h), by rfl⟩
theorem ev_isNoStr (ha : EvP R n m ta σ H (noStr K)) : EvP R n m (tCB (rIsi K) (tCons ta (tCons (tC (.ty "str")) tNil))) σ H (is (.bl false)) :=
  ev_cb (ea_cons ha (ea_cons (ev_c (v := .ty "str")) ea_nil)) fun vs H1 e hv => by
    obtain ⟨v, w, rfl, h1, h2⟩ := two hv
    have h2 : w = .ty "str" := h2
    subst h2
    obtain ⟨tv, h3, h4⟩ := NoStr.ty h1
    exact rc_now fun _ q => ⟨v, _, tv, .type "str", false, rfl, .ty _, h3, h4, q⟩
theorem rv_mulS {c : Nat} {i : Int} (h0 : -100000 ≤ i) (h1 : i ≤ 100000) : RV R rMulU (sv [c]) (.int i) H (is (sv (List.replicate i.toNat c))) := rv_now fun _ q => .inr (.inr ⟨c, i, rfl, rfl, h0, h1, by
  have e : V.str (Txt.mul ⟨#[c]⟩ i) = sv (List.replicate i.toNat c) := (sv_of _).trans (by unfold cs; rw [PyProof.Rows.mul_one_list])
  rw [e]
  exact q⟩)
/-! ### find from a place on -/
def fnd3 (l b : Codes) (i : Int) : Int := Txt.find3 (SX.S l) (SX.S b) i
theorem ev_find3 {i : Int} (ho : EvP R n n te σ H (is (sv a))) (hb : EvP R n n ta σ H (is (sv b))) (hc : EvP R n n tb σ H (is (.int i))) : EvP R n n (tBM K "str" rFindU te (tCons ta (tCons tb tNil))) σ H (is (.int (fnd3 a b i))) :=
  ev_bm ho (fun x H1 _ hx => by
    have hx : x = sv a := hx
    subst hx
    rfl) (ea_cons hb (ea_cons hc ea_nil)) fun x vs H1 e hx hv => by
      have hx : x = sv a := hx
      subst hx
      obtain ⟨v, w, rfl, h1, h2⟩ := two hv
      have h1 : v = sv b := h1
      have h2 : w = .int i := h2
      subst h1; subst h2
      exact rm_now fun Q q => .inr ⟨_, _, i, rfl, rfl, q⟩
end
end My
namespace My
open PySem PySem.Spec PyProof.Rows L2
section
variable {R : Rel} {n m k : Nat} {K : PySem.W.Frag} {σ : L2.St} {H H' : Hp} {ta tb tc te : TE} {t u : TT} {x y z v : V} {p q s : SP} {D : Ends} {tu tw tz : TS} {g : TG} {a b : Codes}
/-! ### while with a heap that changes at addresses of the run's own -/
theorem s_whileH (W : Nat → L2.St → Hp → Prop) (m0 : Nat) (h0 : ∀ H1, R.ok n H H1 → W m0 σ H1)
    (hs : ∀ m σ' H', W m σ' H' → R.J n H' ∧ ∃ b, EvT R n n t σ' H' (· = b) ∧ (b = true → StF R n tu { D with nx := fun σ2 H2 => ∃ m', m' < m ∧ W m' σ2 H2, ct := fun σ2 H2 => ∃ m', m' < m ∧ W m' σ2 H2, bk := D.nx } σ' H') ∧ (b = false → ∀ H1, R.ok n H' H1 → D.nx σ' H1)) : StF R n (tWhile t tu) D σ H := fun H1 e =>
  ⟨W, ⟨m0, h0 H1 e⟩, fun m σ' H' hw => by
    obtain ⟨j, b, hb, h1, h2⟩ := hs m σ' H' hw
    refine hb H' (R.self j) _ fun c H2 e2 hc => ?_
    subst hc
    cases c with
    | true => exact ⟨fun σ2 H3 => ∃ m', m' < m ∧ W m' σ2 H3, fun σ2 H3 hn => hn, h1 rfl H2 e2⟩
    | false => exact h2 rfl H2 e2⟩
theorem q_whileH (W : Nat → L2.St → Hp → Prop) (m0 : Nat) (h0 : ∀ H1, R.ok n H H1 → W m0 σ H1)
    (hs : ∀ m σ' H', W m σ' H' → R.J n H' ∧ ∃ b, EvT R n n t σ' H' (· = b) ∧ (b = true → StF R n tu { D with nx := fun σ2 H2 => ∃ m', m' < m ∧ W m' σ2 H2, ct := fun σ2 H2 => ∃ m', m' < m ∧ W m' σ2 H2, bk := tz D } σ' H') ∧ (b = false → StF R n tz D σ' H')) : StF R n (tSeq (tWhile t tu) tz) D σ H :=
  s_whileH (D := { D with nx := tz D }) W m0 h0 fun m σ' H' hw => by
    obtain ⟨j, b, a, c, d⟩ := hs m σ' H' hw
    exact ⟨j, b, a, c, fun hb H1 e1 => d hb H1 e1⟩
/-- l.append((..)): a new tuple at T -/
theorem s_appT {l : Addr} {xs vs : List V} {i : Nat} {tar : TA} (hl : H l = some (.lst xs)) (hm : ¬ R.M l) (hi : σ[i]? = some (some (.ref l))) (he : EvA R n n tar σ H (vs.map is)) (hz : xs.length < 100000) (hz2 : vs.length ≤ 100000)
    (f : ∀ T H1, R.ok n H H1 → H1 T = none → D.nx σ (upd (upd H1 T (.tup vs)) l (.lst (xs ++ [.ref T])))) : StF R n (tDrop (tBM K "list" rAppend (tVar i) (tCons (tTup tar) tNil))) D σ H := fun H1 e =>
  ⟨.ref l, hi, .inl ⟨rfl, xs, .inl (.inl (e.2 l _ hm hl))⟩, he H1 e _ fun ws H2 e2 hv => by
    have hv := paired_is hv
    subst hv
    refine ⟨Evl.sz_of hz2, fun T hT => ?_⟩
    have h2 := (R.trans e e2).2 l _ hm hl
    have ne : l ≠ T := fun z => by rw [z, hT] at h2; cases h2
    exact ⟨l, xs, .ref T, rfl, rfl, by rw [upd_ne ne]; exact h2, Evl.sz_lt hz, f T H2 (R.trans e e2) hT⟩⟩
/-- l.append(tuple(list)) -/
theorem s_appTup {l l2 : Addr} {xs ys : List V} {i j : Nat} (hl : H l = some (.lst xs)) (hm : ¬ R.M l) (hl2 : H l2 = some (.lst ys)) (hm2 : ¬ R.M l2) (hi : σ[i]? = some (some (.ref l))) (hj : σ[j]? = some (some (.ref l2))) (hz : xs.length < 100000)
    (f : ∀ T H1, R.ok n H H1 → H1 T = none → D.nx σ (upd (upd H1 T (.tup ys)) l (.lst (xs ++ [.ref T])))) : StF R n (tDrop (tBM K "list" rAppend (tVar i) (tCons (tCB (rTupU K) (tCons (tVar j) tNil)) tNil))) D σ H := fun H1 e => by
  have h1 := e.2 l _ hm hl
  have h2 := e.2 l2 _ hm2 hl2
  refine ⟨.ref l, hi, .inl ⟨rfl, xs, .inl (.inl h1)⟩, ?_⟩
  refine ⟨.ref l2, hj, l2, ys, rfl, .inl ⟨.inl (.inl h2), fun T hT => ?_⟩⟩
  have ne : l ≠ T := fun z => by rw [z, hT] at h1; cases h1
  exact ⟨l, xs, .ref T, rfl, rfl, by rw [upd_ne ne]; exact h1, Evl.sz_lt hz, f T H1 e hT⟩
/-- x = [] -/
theorem s_asgE {i : Nat} (f : ∀ T H1, R.ok n H H1 → H1 T = none → D.nx (σ.set i (some (.ref T))) (upd H1 T (.lst []))) : StF R n (tAsg (tLst tNil) (gName i)) D σ H := fun H1 e => ⟨Evl.sz_of (Nat.zero_le _), fun T hT => f T H1 e hT⟩
/-- x, y = a pair that is known -/
theorem q_asgP {i j : Nat} {u w : V} (h : EvP R n m te σ H (tupG K (· = [u, w]))) (f : StF R m tz D ((σ.set i (some u)).set j (some w)) H) : StF R n (tSeq (tAsg te (gTup K 2 (gCons (gName i) (gCons (gName j) gNil)))) tz) D σ H := fun H1 e =>
  h H1 e _ fun v H2 e2 hv => by
    obtain ⟨T, xs, rfl, hT, rfl⟩ := hv
    exact ⟨T, _, rfl, hT.sq, rfl, _, _, rfl, _, _, rfl, rfl, f H2 (R.trans e e2)⟩
/-! ### tuples of tuples of the run's own -/
abbrev Pr := Codes × Codes
def pairF (H0 : Hp) (v : V) (q : Pr) (H : Hp) : Prop := ∃ T, v = .ref T ∧ H0 T = none ∧ H T = some (.tup [sv q.1, sv q.2])
def leafF (H0 : Hp) (v : V) (ps : List Pr) (H : Hp) : Prop := ∃ T vs, v = .ref T ∧ H0 T = none ∧ H T = some (.tup vs) ∧ Paired (fun v q => pairF H0 v q H) vs ps
def pairSP (K : PySem.W.Frag) (q : Pr) : SP := tupG K (· = [sv q.1, sv q.2])
def leafSP (K : PySem.W.Frag) (ps : List Pr) : SP := tupP K (pairSP K) ps
def nameSP (K : PySem.W.Frag) (ls : List (List Pr)) : SP := tupP K (leafSP K) ls
def keepT (H0 H H' : Hp) : Prop := ∀ a vs, H0 a = none → H a = some (.tup vs) → H' a = some (.tup vs)
theorem keepT.pr1 {H0 : Hp} (k : keepT H0 H H') {v : V} {q : Pr} (h : pairF H0 v q H) : pairF H0 v q H' := by
  obtain ⟨T, rfl, h0, h⟩ := h
  exact ⟨T, rfl, h0, k T _ h0 h⟩
theorem keepT.lf {H0 : Hp} (k : keepT H0 H H') {v : V} {q : List Pr} (h : leafF H0 v q H) : leafF H0 v q H' := by
  obtain ⟨T, vs, rfl, h0, h, g⟩ := h
  exact ⟨T, vs, rfl, h0, k T _ h0 h, Paired_imp (fun _ _ z => k.pr1 z) g⟩
theorem pairF.sp {H0 : Hp} {q : Pr} (j : R.J n H0) (h : pairF H0 v q H) : (pairSP K q).P R.M v H := by
  obtain ⟨T, rfl, h0, h⟩ := h
  exact ⟨T, _, rfl, .of h (R.fresh j h0), rfl⟩
theorem leafF.sp {H0 : Hp} {q : List Pr} (j : R.J n H0) (h : leafF H0 v q H) : (leafSP K q).P R.M v H := by
  obtain ⟨T, vs, rfl, h0, h, g⟩ := h
  exact ⟨T, vs, rfl, .of h (R.fresh j h0), Paired_imp (fun _ _ z => z.sp j) g⟩
/-- two lists of the run's own: leaves, and the pairs of the next one -/
structure RdSt (R : Rel) (n : Nat) (H0 : Hp) (L P : Addr) (xs ys : List V) (ls : List (List Pr)) (ps : List Pr) (H : Hp) : Prop where
  j0 : R.J n H0
  J : R.J n H
  pr : pres R.M H0 H
  ne : L ≠ P
  l0 : H0 L = none
  p0 : H0 P = none
  hL : H L = some (.lst xs)
  hP : H P = some (.lst ys)
  fl : Paired (fun v q => leafF H0 v q H) xs ls
  fp : Paired (fun v q => pairF H0 v q H) ys ps
variable {H0 : Hp} {L P T : Addr} {xs ys : List V} {ls : List (List Pr)} {ps : List Pr}
theorem RdSt.mL (h : RdSt R n H0 L P xs ys ls ps H) : ¬ R.M L := R.fresh h.j0 h.l0
theorem RdSt.mP (h : RdSt R n H0 L P xs ys ls ps H) : ¬ R.M P := R.fresh h.j0 h.p0
theorem old0 (h : pres R.M H0 H) (j0 : R.J n H0) (j : R.J n H) (e : H T = none) : H0 T = none := old_none (R := R) (n := n) ⟨j, h⟩ e
theorem RdSt.step (h : RdSt R n H0 L P xs ys ls ps H) (e : R.ok n H H') : RdSt R n H0 L P xs ys ls ps H' := by
  have k : keepT H0 H H' := fun a vs h0 ha => e.2 a _ (R.fresh h.j0 h0) ha
  exact ⟨h.j0, e.1, h.pr.trans e.2, h.ne, h.l0, h.p0, e.2 _ _ h.mL h.hL, e.2 _ _ h.mP h.hP, Paired_imp (fun _ _ z => k.lf z) h.fl, Paired_imp (fun _ _ z => k.pr1 z) h.fp⟩
theorem pres_upd0 {l : Addr} {o : HO} (h : pres R.M H0 H) (hl : H0 l = none) : pres R.M H0 (upd H l o) := fun a ob ma ha => by
  have ne : a ≠ l := fun z => by rw [z, hl] at ha; cases ha
  rw [upd_ne ne]
  exact h a ob ma ha
theorem RdSt.pair (h : RdSt R n H0 L P xs ys ls ps H) (hT : H T = none) (q : Pr) : RdSt R n H0 L P xs (ys ++ [.ref T]) ls (ps ++ [q]) (upd (upd H T (.tup [sv q.1, sv q.2])) P (.lst (ys ++ [.ref T]))) := by
  have t0 := old0 h.pr h.j0 h.J hT
  have neT : T ≠ P := fun z => by rw [z, h.hP] at hT; cases hT
  have neL : L ≠ T := fun z => by rw [← z, h.hL] at hT; cases hT
  have k : keepT H0 H (upd (upd H T (.tup [sv q.1, sv q.2])) P (.lst (ys ++ [.ref T]))) := fun a vs h0 ha => by
    have n1 : a ≠ P := fun z => by rw [z, h.hP] at ha; cases ha
    have n2 : a ≠ T := fun z => by rw [z, hT] at ha; cases ha
    rw [upd_ne n1, upd_ne n2]
    exact ha
  refine ⟨h.j0, R.put (R.put h.J (R.fresh h.j0 t0)) h.mP, pres_upd0 (pres_upd0 h.pr t0) h.p0, h.ne, h.l0, h.p0, ?_, upd_same, Paired_imp (fun _ _ z => k.lf z) h.fl, Paired.snoc (Paired_imp (fun _ _ z => k.pr1 z) h.fp) ⟨T, rfl, t0, ?_⟩⟩
  · rw [upd_ne h.ne, upd_ne neL]
    exact h.hL
  · rw [upd_ne neT]
    exact upd_same
theorem RdSt.leaf (h : RdSt R n H0 L P xs ys ls ps H) (hT : H T = none) : RdSt R n H0 L P (xs ++ [.ref T]) ys (ls ++ [ps]) ps (upd (upd H T (.tup ys)) L (.lst (xs ++ [.ref T]))) := by
  have t0 := old0 h.pr h.j0 h.J hT
  have neT : T ≠ L := fun z => by rw [z, h.hL] at hT; cases hT
  have neP : P ≠ T := fun z => by rw [← z, h.hP] at hT; cases hT
  have k : keepT H0 H (upd (upd H T (.tup ys)) L (.lst (xs ++ [.ref T]))) := fun a vs h0 ha => by
    have n1 : a ≠ L := fun z => by rw [z, h.hL] at ha; cases ha
    have n2 : a ≠ T := fun z => by rw [z, hT] at ha; cases ha
    rw [upd_ne n1, upd_ne n2]
    exact ha
  refine ⟨h.j0, R.put (R.put h.J (R.fresh h.j0 t0)) h.mL, pres_upd0 (pres_upd0 h.pr t0) h.l0, h.ne, h.l0, h.p0, upd_same, ?_, Paired.snoc (Paired_imp (fun _ _ z => k.lf z) h.fl) ⟨T, ys, rfl, t0, ?_, Paired_imp (fun _ _ z => k.pr1 z) h.fp⟩, Paired_imp (fun _ _ z => k.pr1 z) h.fp⟩
  · rw [upd_ne (Ne.symm h.ne), upd_ne neP]
    exact h.hP
  · rw [upd_ne neT]
    exact upd_same
theorem RdSt.fresh (h : RdSt R n H0 L P xs ys ls ps H) (hT : H T = none) : RdSt R n H0 L T xs [] ls [] (upd H T (.lst [])) := by
  have t0 := old0 h.pr h.j0 h.J hT
  have neT : L ≠ T := fun z => by rw [← z, h.hL] at hT; cases hT
  have k : keepT H0 H (upd H T (.lst [])) := fun a vs h0 ha => by
    have n2 : a ≠ T := fun z => by rw [z, hT] at ha; cases ha
    rw [upd_ne n2]
    exact ha
  refine ⟨h.j0, R.put h.J (R.fresh h.j0 t0), pres_upd0 h.pr t0, neT, h.l0, t0, ?_, upd_same, Paired_imp (fun _ _ z => k.lf z) h.fl, .nil⟩
  rw [upd_ne neT]
  exact h.hL
/-! ### comprehensions over items by their properties -/
theorem ev_lcQ {α : Type} {wi : TI} {vs : List Nat} {as : List α} {pi : α → SP} {j : Nat} (gv : α → V) (d : α) (hi : ItP R n n wi σ H (as.map pi)) (hz : as.length ≤ 50000) (hw : ∀ x, wipe ((wipe σ vs).set j (some x)) vs = wipe σ vs)
    (hs : ∀ R' H' a x, Ext R H R' H' → a ∈ as → (pi a).P R'.M x H' → EvP R' n n te ((wipe σ vs).set j (some x)) H' (is (gv a))) : EvP R n n (tLc wi (gName j) tYes te vs) σ H (lstG (· = as.map gv)) := by
  refine (ev_lc (t := tYes) (te := te) (g := gName j) (vs := vs) (f := fun _ => true) (pe := fun i => is (gv (as.getD i d))) (c := fun _ => n) hi (by rw [List.length_map]; exact hz) fun R' H' i y x ex hy hx => ?_).imp fun v H1 _ hv => ?_
  · rw [List.getElem?_map] at hy
    obtain ⟨w, hw1, rfl⟩ := Option.map_eq_some_iff.mp hy
    have eg : as.getD i d = w := getD_of hw1
    refine ⟨_, fun Q q => q, hw x, n, fun H1 e Q k => k true H1 (R'.refl e) rfl, fun _ => ?_, fun z => nomatch z⟩
    show EvP R' n n te _ H' (is (gv (as.getD i d)))
    rw [eg]
    exact hs R' H' w x ex (List.mem_of_getElem? hw1) hx
  · obtain ⟨l, xs, rfl, h, g⟩ := hv
    refine ⟨l, xs, rfl, h, ?_⟩
    have e := paired_map (gv := fun i => gv (as.getD i d)) g
    rw [List.length_map, List.filter_eq_self.mpr (fun _ _ => rfl)] at e
    rw [e]
    have e2 := congrArg (List.map gv) (range_getD d as)
    rw [List.map_map] at e2
    exact e2
theorem inV_sv (w : Codes) : ∀ (ws : List Codes), inV (sv w) (ws.map sv) = decide (w ∈ ws)
  | [] => by rw [decide_eq_false (by simp)]; rfl
  | x :: ws => by
    have ih := inV_sv w ws
    unfold inV at ih ⊢
    rw [List.map_cons, List.any_cons, ih]
    have e : eqV (sv x) (sv w) = decide (x = w) := by
      show (SX.S x == SX.S w) = _
      by_cases h : x = w
      · rw [h, decide_eq_true rfl]
        exact beq_self_eq_true _
      · rw [decide_eq_false h]
        exact beq_eq_false_iff_ne.mpr fun z => h (SX.S_inj z)
    rw [e]
    by_cases h : x = w
    · rw [decide_eq_true h, decide_eq_true (show w ∈ x :: ws by rw [h]; exact List.mem_cons_self ..)]
      rfl
    · rw [decide_eq_false h, Bool.false_or]
      exact decide_eq_decide.mpr ⟨fun z => List.mem_cons_of_mem _ z, fun z => (List.mem_cons.mp z).resolve_left fun e => h e.symm⟩
theorem ev_inT {ws : List Codes} {w : Codes} (ha : EvP R n m ta σ H (is (sv w))) (hb : EvP R m k tb σ H (lstG (· = ws.map sv))) : EvP R n k (tOp (rInU K) ta tb) σ H (is (.bl (decide (w ∈ ws)))) :=
  ev_op ha hb fun v y H1 e hv hy _ j Q f => by
    have hv : v = sv w := hv
    subst hv
    obtain ⟨l, xs, rfl, h, rfl⟩ := hy
    refine .inr (.inl ⟨l, _, rfl, .inl h.sq, rfl, ?_, ?_⟩)
    · rw [List.all_map, List.all_eq_true]
      intro x _
      rfl
    · show Q (.bl (inV (sv w) (ws.map sv))) H1
      rw [inV_sv]
      exact f _ H1 (R.self j) rfl
/-- a list that is empty == [] -/
theorem ev_eqE {l : Addr} (ha : EvP R n m ta σ H (is (.ref l))) (hl : H l = some (.lst [])) (hm : ¬ R.M l) (hb : EvP R m k tb σ H (lstG (· = []))) : EvP R n k (tOp (rEqU K) ta tb) σ H (is (.bl true)) :=
  ev_op ha hb fun v y H1 e hv hy _ j Q f => by
    have hv : v = .ref l := hv
    subst hv
    obtain ⟨l2, xs, rfl, h, rfl⟩ := hy
    have h1 := e.2 l _ hm hl
    exact .inr ⟨_, _, .lst (.inl (.inl h1)) .nil, .lst h.sq .nil, by rfl, by rfl, f _ H1 (R.self j) (by show V.bl _ = V.bl true; rfl)⟩
theorem ev_lenP {α : Type} {pe : α → SP} {qs : List α} (ha : EvP R n m te σ H (tupP K pe qs)) : EvP R n m (tCB (rLenU K) (tCons te tNil)) σ H (is (.int qs.length)) := ev_len1 ha fun v H1 e hv => by
  obtain ⟨l, xs, rfl, h, g⟩ := hv
  exact .inr ⟨xs, h.sq, g.length.symm⟩
theorem ev_tupOf {α : Type} {pe : α → SP} {qs : List α} (ha : EvP R n m te σ H (lstP pe qs)) : EvP R n m (tCB (rTupU K) (tCons te tNil)) σ H (tupP K pe qs) := ev_cb (ea_cons ha ea_nil) fun vs H1 e hv => by
  obtain ⟨v, rfl, l, xs, rfl, h, g⟩ := one hv
  exact fun _ j Q f => ⟨l, xs, rfl, .inl ⟨h.sq, fun T hT => f _ _ (R.new j hT) ⟨T, xs, rfl, .of upd_same (R.fresh j hT), Paired_imp (fun _ _ z => (pe _).st (R.new j hT).2 z) g⟩⟩⟩
end
end My
namespace My
open PySem PySem.Spec PyProof.Rows L2
/-! ### calls by keywords alone -/
def perm {α : Type} (js : List Nat) (l : List α) : List α := js.filterMap fun j => l[j]?
theorem paired_get {α β : Type} {F : α → β → Prop} : ∀ {xs : List α} {ys : List β} (_ : Paired F xs ys) (i : Nat), (∃ x y, xs[i]? = some x ∧ ys[i]? = some y ∧ F x y) ∨ (xs[i]? = none ∧ ys[i]? = none)
  | _, _, .nil, _ => .inr ⟨rfl, rfl⟩
  | _, _, .cons a _, 0 => .inl ⟨_, _, rfl, rfl, a⟩
  | _, _, .cons _ b, i + 1 => paired_get b i
theorem perm_rel {α β : Type} {F : α → β → Prop} {vs : List α} {us : List β} (r : Paired F vs us) : ∀ js : List Nat, Paired F (perm js vs) (perm js us)
  | [] => .nil
  | j :: js => by
    have ih := perm_rel r js
    unfold perm at ih ⊢
    rcases paired_get r j with ⟨x, y, h1, h2, h3⟩ | ⟨h1, h2⟩
    · rw [List.filterMap_cons_some h1, List.filterMap_cons_some h2]
      exact .cons h3 ih
    · rw [List.filterMap_cons_none h1, List.filterMap_cons_none h2]
      exact ih
def tCallK0 (m : Nat) (sp : Sp) (js : List Nat) (tk : TA) : TE := fun σ H Q => tk σ H fun zs H2 => zs.length = m ∧ sp (perm js zs) H2 Q E0
theorem pe_callKw0 {X : Cx} {k : Nat} {x : Str} {ps ks : List Str} {sp : Sp} {st : Stmt} {kws : List Keyword} {tk : TA} {p pos : Pos} (js : List Nat) (C : Cal X.prog X.w X.K X.mg X.base k x ps sp) (D : Df X.K X.mg x st) (hr : Room k X.A) (hg : Gl X x)
    (hb : ∀ (kV doc pm : Value) (an : Option Addr) (cdv ct : Value) (ws : List Value), ws.length = ks.length → bindArgs (PySem.W.fnOf x x (defArgs st) (defBody st) (defScope st) .none kV doc pm an cdv ct) ⟨[], ks.zip ws⟩ = pure (ps.zip (perm js ws)))
    (hkw : PK X kws tk) (hall : (backToKw pos (keywordEach kws X.env)).all (·.1.isSome) = true := by rfl) (hks : (backToKw pos (keywordEach kws X.env)).filterMap (·.1) = ks := by rfl)
    (hdb : (x == ("__debug__" : Str)) = false := by decide) (hpl : ((backTo pos (starEach [] X.env)).any (·.1) || (backToKw pos (keywordEach kws X.env)).any (·.1.isNone)) = false := by rfl) :
    PE X (.Call (.Name x p) [] kws pos) (tCallK0 ks.length sp js tk) := by
  obtain ⟨f, fd, F, hm, hk, _, oc, od, osl, lk⟩ := C.ex
  obtain ⟨f', fd', FD, hm'⟩ := D.ex
  rw [hm] at hm'
  cases hm'
  obtain ⟨oc', od', dV, kV, doc, pm, an, cdv, ct, osl', e, lk', hcd, hD, hK⟩ := FD.ex
  rw [lk] at lk'
  cases lk'
  have hb2 : KBn X.K fd ps 0 ks (fun us ws => perm js (us ++ ws)) (fun vs zs => perm js (vs ++ zs)) := by
    rcases hD with ⟨_, rfl⟩ | ⟨e, _⟩
    · refine ⟨fun s us ws _ h1 h2 => ?_, fun r1 r2 => perm_rel (r1.append r2) js⟩
      cases us with
      | nil =>
        subst e
        exact .of_eq (hb kV doc pm an cdv ct ws h2)
      | cons a b => cases h1
    · exact absurd rfl e
  refine ⟨fun pins s σ H Q I h => ?_⟩
  refine wpAny_Call_Name_kw (ld_glob I hg hm ?_ hdb)
  refine PySem.W.callWith_KW0 (h₀ := X.base) I.ok.mod.kin hk hall (thn (hkw.run pos pins s σ H _ I h) fun ws s2 ⟨zs, H2, I2, rz, l2, q2⟩ => ⟨I2.kIn, ?_⟩) hpl
  rw [hks]
  exact run_fnN (us := []) (vs := []) F hr hb2 pass0 I2 .nil rz rfl l2 q2
section
variable {R : Rel} {n m k : Nat} {K : PySem.W.Frag} {σ : L2.St} {H H' : Hp} {ta tb tc te : TE} {x y z v : V} {p q s : SP} {D : Ends} {tz : TS}
theorem ev_callKw {sp : Sp} {mk : Nat} {js : List Nat} {tk : TA} {ps : List SP} (h : EvA R n m tk σ H ps) (hl : ps.length = mk) (hs : ∀ vs H1, R.ok m H H1 → Paired (fun v (p : SP) => p.P R.M v H1) vs ps → ∀ Q : VK, (∀ v H2, R.ok k H1 H2 → s.P R.M v H2 → Q v H2) → sp (perm js vs) H1 Q E0) : EvP R n k (tCallK0 mk sp js tk) σ H s := fun H1 e Q f =>
  h H1 e _ fun vs H2 e2 hv => ⟨hv.length.trans hl, hs vs H2 (R.trans e e2) hv Q fun v H3 e3 h3 => f v H3 (R.trans e2 e3) h3⟩
/-- a new list by + -/
theorem ev_catN {F G : List V → Prop} (ha : EvP R n m ta σ H (lstG F)) (hb : EvP R m k tb σ H (lstG G)) (hz : ∀ xs ys, F xs → G ys → xs.length + ys.length ≤ 100000) : EvN R n k (tOp (rAddU K) ta tb) σ H (fun zs => ∃ xs ys, F xs ∧ G ys ∧ zs = xs ++ ys) := fun H1 e Q f => ha H1 e _ fun v H2 e2 hv => hb H2 (R.trans e e2) _ fun w H3 e3 hw => by
  obtain ⟨l, xs, rfl, h1, g1⟩ := (lstG F).st e3.2 hv
  obtain ⟨l2, ys, rfl, h2, g2⟩ := hw
  exact .inr (.inr (.inl ⟨l, l2, xs, ys, rfl, rfl, h1.1, h2.1, Evl.sz_of (hz xs ys g1 g2), fun p hp => f p _ _ (R.trans e2 (R.trans e3 (R.new e3.1 hp))) (old_none (R.trans e2 e3) hp) ⟨upd_same, R.fresh e3.1 hp⟩ ⟨xs, ys, g1, g2, rfl⟩⟩))
end
end My
namespace My
open PySem PySem.Spec PyProof.Rows L2
/-! ### own __eq__, own __contains__ of plain instances -/
section
variable {X : Cx} {CX : CXT} {n : Nat} {C g : Addr} {sp : Sp} {E : XK} {pins : List (Addr × Obj)} {σ : L2.St} {H : Hp} {s : Shared}
theorem ins_inst {a dx : Addr} {fs : List (PySem.Str × V)} (I : Inv X pins σ H s) (e : H a = some (.ins C dx fs)) : ∃ od, PySem.W.InstAt s.heap a (PySem.W.instObj C dx) C (some od) := by
  obtain ⟨mA, J, _⟩ := ins_get I.hok e
  obtain ⟨od, J2, _⟩ := J.look
  exact ⟨od, J2⟩
/-- x == y and its like, where x and y are instances and x's class has its own method -/
def rOwnI (K : PySem.W.Frag) (C : Addr) (sp : Sp) (E : XK) : R2 := fun x y H Q => ∃ a dx vs b C' dy ws, x = .ref a ∧ y = .ref b ∧ H a = some (.ins C dx vs) ∧ H b = some (.ins C' dy ws) ∧ PySem.W.notFirst K C (.ref C') = true ∧ sp [x, y] H Q E
theorem op_ownI {op : CmpOp} (hop : ∀ a b, compareOp op a b = richCompare op a b) (hs : PySem.W.findIn X.K (.ref C) (cmpInfo op).2.1 = some (some (.ref g))) (hf : PySem.W.isFn X.K (.ref g) = true) (F : FnR X.prog X.w X.K X.mg X.base CX n g sp)
    (hr : Room n X.A) (hx : Passes CX X E) : OpR X (compareOp op) (rOwnI X.K C sp E) := by
  intro pins s σ H x y v u Q I rx ry h
  obtain ⟨a, dx, vs, b, C', dy, ws, rfl, rfl, ha, hb, hn, q⟩ := h
  cases (show v = Value.ref a from rx)
  cases (show u = Value.ref b from ry)
  obtain ⟨od, J⟩ := ins_inst I ha
  obtain ⟨od', J'⟩ := ins_inst I hb
  obtain ⟨m, hF⟩ := I.fr
  rw [hop]
  refine PySem.W.cmp_K (op := op) (tb := .ref C') hr.units0 hF I.ok.mod.kin J J'.type hn hs hf ?_
  refine wpAny_mono (wpAny_call (run_fnR (us := [.ref a, .ref b]) (vs := [.ref a, .ref b]) F hr hx I (.cons rfl (.cons rfl .nil)) q)) (fun w s' z => ?_) fun _ _ x => x
  obtain ⟨z', H', I', rz, qz⟩ := z
  exact SlX.cmpback rz ⟨z', H', I', rz, qz⟩
/-- y in x, where x is an instance with its own __contains__, which tells a truth -/
def rInI (neg : Bool) (C : Addr) (sp : Sp) (E : XK) : R2 := fun y x H Q => ∃ a dx vs, x = .ref a ∧ H a = some (.ins C dx vs) ∧ sp [x, y] H (fun z H' => ∃ b, z = .bl b ∧ Q (.bl (if neg then !b else b)) H') E
theorem op_inI (hs : PySem.W.findIn X.K (.ref C) "__contains__" = some (some (.ref g))) (hf : PySem.W.isFn X.K (.ref g) = true) (F : FnR X.prog X.w X.K X.mg X.base CX n g sp)
    (hr : Room n X.A) (hx : Passes CX X E) : OpR X (compareOp .In) (rInI false C sp E) := by
  intro pins s σ H y x u v Q I ry rx h
  obtain ⟨a, dx, vs, rfl, ha, q⟩ := h
  cases (show v = Value.ref a from rx)
  obtain ⟨od, J⟩ := ins_inst I ha
  obtain ⟨m, hF⟩ := I.fr
  refine PySem.W.in_K hF I.ok.mod.kin J hs hf ?_
  refine wpAny_mono (wpAny_call (run_fnR (us := [.ref a, u]) (vs := [.ref a, y]) F hr hx I (.cons rfl (.cons ry .nil)) q)) (fun w s' z => ?_) fun _ _ x => x
  obtain ⟨z', H', I', rz, b, rfl, qz⟩ := z
  cases (show w = Value.bool b from rz)
  exact wpAny_pure ⟨.bl b, H', I', rfl, qz⟩
theorem op_notInI (hs : PySem.W.findIn X.K (.ref C) "__contains__" = some (some (.ref g))) (hf : PySem.W.isFn X.K (.ref g) = true) (F : FnR X.prog X.w X.K X.mg X.base CX n g sp)
    (hr : Room n X.A) (hx : Passes CX X E) : OpR X (compareOp .NotIn) (rInI true C sp E) := by
  intro pins s σ H y x u v Q I ry rx h
  obtain ⟨a, dx, vs, rfl, ha, q⟩ := h
  cases (show v = Value.ref a from rx)
  obtain ⟨od, J⟩ := ins_inst I ha
  obtain ⟨m, hF⟩ := I.fr
  refine PySem.W.notIn_K hF I.ok.mod.kin J hs hf ?_
  refine wpAny_mono (wpAny_call (run_fnR (us := [.ref a, u]) (vs := [.ref a, y]) F hr hx I (.cons rfl (.cons ry .nil)) q)) (fun w s' z => ?_) fun _ _ x => x
  obtain ⟨z', H', I', rz, b, rfl, qz⟩ := z
  cases (show w = Value.bool b from rz)
  exact wpAny_pure ⟨.bl (!b), H', I', rfl, qz⟩
end
end My
namespace My
open PySem PySem.Spec PyProof.Rows L2
theorem ofString_inj {a b : String} (h : Str.ofString a = Str.ofString b) : a = b := by
  rw [Str.ofString_eq_toList, Str.ofString_eq_toList] at h
  have h1 : (a.toList.map Char.toNat).toArray = (b.toList.map Char.toNat).toArray := congrArg Str.cps h
  have h2 : a.toList.map Char.toNat = b.toList.map Char.toNat := by simpa using congrArg Array.toList h1
  have inj : ∀ {l m : List Char}, l.map Char.toNat = m.map Char.toNat → l = m := by
    intro l
    induction l with
    | nil => intro m e; cases m with
      | nil => rfl
      | cons => cases e
    | cons c l ih => intro m e; cases m with
      | nil => cases e
      | cons d m =>
        rw [List.map_cons, List.map_cons, List.cons.injEq] at e
        have hc : c = d := by
          apply Char.ext
          apply UInt32.toNat_inj.mp
          exact e.1
        rw [hc, ih e.2]
  exact String.toList_inj.mp (inj h2)
/-! ### a def at an address, called in any shape -/
section
variable (P : Program) (w : World) (K : PySem.W.Frag) (mg : Str → Option Value) (base : Heap) (CX : CXT)
structure CalF (k : Nat) (a : Addr) (x q : Str) (st : Stmt) (dvs : List V) (kvs : List (Str × V)) (ps : List Str) (sp : Sp) : Prop where
  ex : ∃ fd, FnOk P w K mg base CX k a fd ps sp ∧ FunD K x q (defArgs st) (defBody st) (defScope st) dvs kvs a fd
end
theorem CalF.mono {P : Program} {w : World} {K : PySem.W.Frag} {mg : Str → Option Value} {base : Heap} {CX : CXT} {j k : Nat} {a : Addr} {x q : Str} {st : Stmt} {dvs : List V} {kvs : List (Str × V)} {ps : List Str} {sp : Sp} (C : CalF P w K mg base CX j a x q st dvs kvs ps sp) (h : j ≤ k) : CalF P w K mg base CX k a x q st dvs kvs ps sp := by
  obtain ⟨fd, F, D⟩ := C.ex
  exact ⟨fd, F.mono h, D⟩
/-- n values, keywords ks: the parameters are picked by js out of values, defaults, keywords -/
def Bs (K : PySem.W.Frag) (x q : Str) (st : Stmt) (dvs : List V) (kvs : List (Str × V)) (ps : List Str) (n : Nat) (ks : List Str) (js : List Nat) : Prop :=
  ∀ a fd, FunD K x q (defArgs st) (defBody st) (defScope st) dvs kvs a fd → ∃ g, KBn K fd ps n ks g (fun vs zs => perm js (vs ++ dvs ++ zs))
theorem bs_0 {K : PySem.W.Frag} {x q : Str} {st : Stmt} {kvs : List (Str × V)} {ps : List Str} {n : Nat} {ks : List Str} {js : List Nat}
    (hb : ∀ (kV doc pm : Value) (an : Option Addr) (cdv ct : Value) (us ws : List Value), us.length = n → ws.length = ks.length → bindArgs (PySem.W.fnOf x q (defArgs st) (defBody st) (defScope st) .none kV doc pm an cdv ct) ⟨us, ks.zip ws⟩ = pure (ps.zip (perm js (us ++ ws)))) :
    Bs K x q st [] kvs ps n ks js := fun a fd FD => by
  obtain ⟨oc, od, dV, kV, doc, pm, an, cdv, ct, osl, e, lk, hcd, hD, hK⟩ := FD.ex
  refine ⟨fun us ws => perm js (us ++ ws), ?_⟩
  rcases hD with ⟨_, rfl⟩ | ⟨z, _⟩
  · refine ⟨fun s us ws _ h1 h2 => ?_, fun r1 r2 => ?_⟩
    · subst e
      exact .of_eq (hb kV doc pm an cdv ct us ws h1 h2)
    · rw [List.append_nil]
      exact perm_rel (r1.append r2) js
  · exact absurd rfl z
theorem bs_D {K : PySem.W.Frag} {x q : Str} {st : Stmt} {dvs : List V} {kvs : List (Str × V)} {ps : List Str} {n : Nat} {ks : List Str} {js : List Nat} (hd : dvs ≠ [])
    (hb : ∀ (T : Addr) (kV doc pm : Value) (an : Option Addr) (cdv ct : Value) (us its ws : List Value), us.length = n → its.length = dvs.length → ws.length = ks.length →
      ∃ k, bindArgs (PySem.W.fnOf x q (defArgs st) (defBody st) (defScope st) (.ref T) kV doc pm an cdv ct) ⟨us, ks.zip ws⟩ = seqItems? (.ref T) >>= k ∧ k (some its.toArray) = pure (ps.zip (perm js (us ++ its ++ ws)))) :
    Bs K x q st dvs kvs ps n ks js := fun a fd FD => by
  obtain ⟨its, h⟩ := FD.kbindsD n ks (fun us its ws => perm js (us ++ its ++ ws)) hd (fun r1 r2 r3 => perm_rel ((r1.append r2).append r3) js) hb
  exact ⟨_, h⟩
section
variable {X : Cx} {CX : CXT} {k n : Nat} {f a : Addr} {fd : FuncData} {x q m : Str} {st : Stmt} {dvs : List V} {kvs : List (Str × V)} {ps ks : List Str} {sp : Sp} {E : L2.St → XK} {p pos apos : Pos} {o : Expr} {es : List Expr} {kws : List Keyword} {ta : TE} {t tk : TA} {js : List Nat} {pins : List (Addr × Obj)} {σ : L2.St} {H : Hp} {s : Shared}
/-- the first argument is no star -/
def StarOk (X : Cx) : List Expr → Prop
  | [] => True
  | e :: r => starEach (e :: r) X.env = (false, eval e X.env) :: starEach r X.env
theorem callWith_any {fv : Value} {first : List Value} {Q : Value → Shared → Prop} {R : List V → List V → Hp → Prop} (hk : PySem.W.keepIn X.K fv = true) (ha : PA X es t) (hkw : PK X kws tk) (hn : es = [] → t = tNil) (hse : StarOk X es)
    (hall : (backToKw pos (keywordEach kws X.env)).all (·.1.isSome) = true) (hks : (backToKw pos (keywordEach kws X.env)).filterMap (·.1) = ks)
    (hpl : ((backTo pos (starEach es X.env)).any (·.1) || (backToKw pos (keywordEach kws X.env)).any (·.1.isNone)) = false) (I : Inv X pins σ H s) (h : t σ H fun vs H1 => tk σ H1 fun zs H2 => R vs zs H2)
    (g : ∀ us vs ws zs s2 H2, Inv X pins σ H2 s2 → Vals vs us → Vals zs ws → R vs zs H2 → wpAny (model X.prog X.w) X.A (call fv (first ++ us) (ks.zip ws)) Q X.xe s2) :
    wpAny (model X.prog X.w) X.A (callWith pos fv first (backTo pos (starEach es X.env)) (backToKw pos (keywordEach kws X.env))) Q X.xe s := by
  cases es with
  | nil =>
    obtain rfl := hn rfl
    refine PySem.W.callWith_KW0 (h₀ := X.base) I.ok.mod.kin hk hall (thn (hkw.run pos pins s σ H _ I h) fun ws s2 ⟨zs, H2, I2, rz, r2⟩ => ⟨I2.kIn, ?_⟩) hpl
    rw [hks]
    exact g [] [] ws zs s2 H2 I2 .nil rz r2
  | cons e es =>
    refine PySem.W.callWith_KW (h₀ := X.base) I.ok.mod.kin hk hall (thn (ha.run pos pins s σ H _ I h) fun us s1 ⟨vs, H1, I1, r, q1⟩ => ?_) hpl hse
    refine thn (hkw.run pos pins s1 σ H1 _ I1 q1) fun ws s2 ⟨zs, H2, I2, rz, r2⟩ => ⟨I2.kIn, ?_⟩
    rw [hks]
    exact g us vs ws zs s2 H2 I2 r rz r2
theorem run_P {Q : VK} {us ws : List Value} {vs zs : List V} (F : CalF X.prog X.w X.K X.mg X.base CX k a x q st dvs kvs ps sp) (hr : Room k X.A) (hb : Bs X.K x q st dvs kvs ps n ks js) (hx : PassesAt CX X σ (E σ))
    (I : Inv X pins σ H s) (r : Vals vs us) (rz : Vals zs ws) (l1 : vs.length = n) (l2 : zs.length = ks.length) (h : sp (perm js (vs ++ dvs ++ zs)) H Q (E σ)) : wpAny (model X.prog X.w) X.A (call (.ref a) us (ks.zip ws)) (EP X pins σ Q) X.xe s := by
  obtain ⟨fd, F, FD⟩ := F.ex
  obtain ⟨g, hb⟩ := hb a fd FD
  refine wpAny_call (codeAny_mono (F.run X.A X.stack s H ⟨us, ks.zip ws⟩ (g us ws) (perm js (vs ++ dvs ++ zs)) Q (E σ) hr I.env0 (hb.to s us ws I.kIn (r.length.symm.trans l1) (rz.length.symm.trans l2)) (hb.rel r rz) h) fun res s' hq => ?_)
  cases res with
  | error er => exact hx pins H s er s' I hq
  | ok fl =>
    cases fl with
    | ret u => exact I.after hq
    | next => exact hq.elim
    | brk => exact hq.elim
    | cont => exact hq.elim
theorem run_makeP {C : Addr} {Q : VK} {us ws : List Value} {vs zs : List V} (M : Mk X.K C a) (F : CalF X.prog X.w X.K X.mg X.base CX k a x q st dvs kvs ps sp) (hr : Room (k + 1) X.A) (hb : Bs X.K x q st dvs kvs ps (n + 1) ks js) (hx : PassesAt CX X σ (E σ))
    (I : Inv X pins σ H s) (r : Vals vs us) (rz : Vals zs ws) (l1 : vs.length = n) (l2 : zs.length = ks.length)
    (h : ∀ y dy, H y = none → H dy = none → dy ≠ y → sp (perm js ((.ref y :: vs) ++ dvs ++ zs)) (upd (upd H dy (.own y)) y (.ins C dy [])) (fun v H2 => v = .non ∧ Q (.ref y) H2) (E σ)) :
    wpAny (model X.prog X.w) X.A (call (.ref C) us (ks.zip ws)) (EP X pins σ Q) X.xe s := by
  obtain ⟨fd, F, FD⟩ := F.ex
  obtain ⟨g, hb⟩ := hb a fd FD
  have hq := h (s.heap.objs.size + 1) s.heap.objs.size (I.hok.fresh (Nat.le_succ _)) (I.hok.fresh (Nat.le_refl _)) (Nat.ne_of_lt (Nat.lt_succ_self _))
  have I2 := Inv.made (C := C) I
  have r1 : Vals (V.ref (s.heap.objs.size + 1) :: vs) (Value.ref (s.heap.objs.size + 1) :: us) := .cons rfl r
  have e1 : (Value.ref (s.heap.objs.size + 1) :: us).length = n + 1 := r1.length.symm.trans (congrArg Nat.succ l1)
  refine wpAny_call (make_map (f := a) I.kIn M.makes M.init (beq_iff_eq.mp M.fn) (codeAny_mono (F.run _ X.stack _ _ ⟨Value.ref (s.heap.objs.size + 1) :: us, ks.zip ws⟩ _ _ _ (E σ) (hr.make C us (ks.zip ws))
    (I2.env0.make C us (ks.zip ws)) (hb.to _ (Value.ref (s.heap.objs.size + 1) :: us) ws I2.kIn e1 (rz.length.symm.trans l2)) (hb.rel r1 rz) hq) fun res s' hq' => ?_))
  cases res with
  | error er => exact hx pins _ _ er s' I2 hq'
  | ok fl =>
    cases fl with
    | ret u =>
      obtain ⟨v, H', I3, rv, ev, q3⟩ := I2.after hq'
      subst ev
      exact ⟨rv, ⟨V.ref (s.heap.objs.size + 1), H', I3, rfl, q3⟩⟩
    | next => exact hq'.elim
    | brk => exact hq'.elim
    | cont => exact hq'.elim
/-- f(..) -/
def tCallP (n m : Nat) (sp : Sp) (js : List Nat) (dvs : List V) (E : L2.St → XK) (t tk : TA) : TE := fun σ H Q => t σ H fun vs H1 => tk σ H1 fun zs H2 => vs.length = n ∧ zs.length = m ∧ sp (perm js (vs ++ dvs ++ zs)) H2 Q (E σ)
theorem pe_callP {g : Str} (F : CalF X.prog X.w X.K X.mg X.base CX k a x q st dvs kvs ps sp) (hr : Room k X.A) (hg : Gl X g) (hm : X.mg g = some (.ref a)) (hb : Bs X.K x q st dvs kvs ps n ks js) (hx : ∀ σ, PassesAt CX X σ (E σ)) (ha : PA X es t) (hkw : PK X kws tk)
    (hn : es = [] → t = tNil := by intro z; first | rfl | cases z) (hse : StarOk X es := by first | exact trivial | rfl) (hall : (backToKw pos (keywordEach kws X.env)).all (·.1.isSome) = true := by rfl)
    (hks : (backToKw pos (keywordEach kws X.env)).filterMap (·.1) = ks := by rfl) (hdb : (g == ("__debug__" : Str)) = false := by decide)
    (hpl : ((backTo pos (starEach es X.env)).any (·.1) || (backToKw pos (keywordEach kws X.env)).any (·.1.isNone)) = false := by rfl) : PE X (.Call (.Name g p) es kws pos) (tCallP n ks.length sp js dvs E t tk) := by
  have kp : PySem.W.keepIn X.K (.ref a) = true := by
    obtain ⟨fd, _, FD⟩ := F.ex
    exact FD.kp
  refine ⟨fun pins s σ H Q I h => wpAny_Call_Name_kw (ld_glob I hg hm ?_ hdb)⟩
  exact callWith_any kp ha hkw hn hse hall hks hpl I h fun us vs ws zs s2 H2 I2 r rz ⟨l1, l2, q2⟩ => run_P F hr hb (hx σ) I2 r rz l1 l2 q2
/-- C(..); tf: the class -/
def tMakeP (C : Addr) (n m : Nat) (sp : Sp) (js : List Nat) (dvs : List V) (E : L2.St → XK) (tf : TE) (t tk : TA) : TE := fun σ H Q => tf σ H fun c H0 => c = .ref C ∧ t σ H0 fun vs H1 => tk σ H1 fun zs H2 => vs.length = n ∧ zs.length = m ∧
  ∀ y dy, H2 y = none → H2 dy = none → dy ≠ y → sp (perm js ((.ref y :: vs) ++ dvs ++ zs)) (upd (upd H2 dy (.own y)) y (.ins C dy [])) (fun v H3 => v = .non ∧ Q (.ref y) H3) (E σ)
theorem pe_makeP {C : Addr} {g : Str} {tf : TE} (M : Mk X.K C a) (F : CalF X.prog X.w X.K X.mg X.base CX k a x q st dvs kvs ps sp) (hr : Room (k + 1) X.A) (hb : Bs X.K x q st dvs kvs ps (n + 1) ks js) (hx : ∀ σ, PassesAt CX X σ (E σ)) (hf : PE X (.Name g p) tf) (ha : PA X es t) (hkw : PK X kws tk)
    (hn : es = [] → t = tNil := by intro z; first | rfl | cases z) (hse : StarOk X es := by first | exact trivial | rfl) (hall : (backToKw pos (keywordEach kws X.env)).all (·.1.isSome) = true := by rfl)
    (hks : (backToKw pos (keywordEach kws X.env)).filterMap (·.1) = ks := by rfl)
    (hpl : ((backTo pos (starEach es X.env)).any (·.1) || (backToKw pos (keywordEach kws X.env)).any (·.1.isNone)) = false := by rfl) : PE X (.Call (.Name g p) es kws pos) (tMakeP C n ks.length sp js dvs E tf t tk) := by
  refine ⟨fun pins s σ H Q I h => wpAny_Call_Name_kw (thn (hf.run pins s σ H _ I h) fun u s0 ⟨c, H0, I0, rc, ec, q0⟩ => ?_)⟩
  subst ec
  obtain rfl : u = Value.ref C := rc
  exact callWith_any M.kp ha hkw hn hse hall hks hpl I0 q0 fun us vs ws zs s2 H2 I2 r rz ⟨l1, l2, q2⟩ => run_makeP M F hr hb (hx σ) I2 r rz l1 l2 q2
/-- o.m(..), o an instance of one of some classes that have the def at a as their m -/
def tMethP (K : PySem.W.Frag) (m : Str) (a : Addr) (n mm : Nat) (sp : Sp) (js : List Nat) (dvs : List V) (E : L2.St → XK) (ta : TE) (t tk : TA) : TE := fun σ H Q => ta σ H fun y H0 => ∃ b C dx fs, y = .ref b ∧ H0 b = some (.ins C dx fs) ∧ Cls K C ∧ Meth K C m a ∧ fs.lookup m = none ∧
  t σ H0 fun vs H1 => tk σ H1 fun zs H2 => vs.length = n ∧ zs.length = mm ∧ sp (perm js ((y :: vs) ++ dvs ++ zs)) H2 Q (E σ)
theorem pe_methP {K : PySem.W.Frag} {pl : Sem Bool} (he : PE X o ta) (F : CalF X.prog X.w X.K X.mg X.base CX k a x q st dvs kvs ps sp) (hr : Room k X.A) (hb : Bs X.K x q st dvs kvs ps (n + 1) ks js) (hx : ∀ σ, PassesAt CX X σ (E σ)) (ha : PA X es t) (hkw : PK X kws tk)
    (hn : es = [] → t = tNil := by intro z; first | rfl | cases z) (hse : StarOk X es := by first | exact trivial | rfl) (hall : (backToKw pos (keywordEach kws X.env)).all (·.1.isSome) = true := by rfl)
    (hks : (backToKw pos (keywordEach kws X.env)).filterMap (·.1) = ks := by rfl)
    (hpl : ((backTo pos (starEach es X.env)).any (·.1) || (backToKw pos (keywordEach kws X.env)).any (·.1.isNone)) = false := by rfl)
    (ht : eval (.Call (.Attribute o m apos) es kws pos) X.env = (do
      let ov ← eval o X.env
      standAt apos.atName
      let (f, first) ← holding [ov] (getMethod ov m pl)
      callWith pos f first (backTo pos (starEach es X.env)) (backToKw pos (keywordEach kws X.env))) := by rfl) (hK : X.K = K := by rfl) :
    PE X (.Call (.Attribute o m apos) es kws pos) (tMethP K m a n ks.length sp js dvs E ta t tk) := by
  subst hK
  refine ⟨fun pins s σ H Q I h => ?_⟩
  refine PySem.W.methodCall_KW (pl := pl) (thn (he.run pins s σ H _ I h) fun u s1 ⟨y, H1, I1, ry, b, C, dx, fs, ey, eb, c, hm, l, q1⟩ => ?_) ht
  subst ey
  obtain rfl : u = Value.ref b := ry
  refine getmeth_ok I1 eb c hm l ?_
  exact callWith_any hm.kp ha hkw hn hse hall hks hpl I1 q1 fun us vs ws zs s2 H2 I2 r rz ⟨l1, l2, q2⟩ => run_P (us := .ref b :: us) (vs := .ref b :: vs) F hr hb (hx σ) I2 (.cons rfl r) rz (congrArg Nat.succ l1) l2 q2
/-- o.f, a property -/
def tPropP (K : PySem.W.Frag) (f : Str) (a : Addr) (sp : Sp) (E : L2.St → XK) (ta : TE) : TE := fun σ H Q => ta σ H fun y H0 => ∃ b C dx fs p, y = .ref b ∧ H0 b = some (.ins C dx fs) ∧ Cls K C ∧ PropOf K C f p a ∧ sp [y] H0 Q (E σ)
theorem getprop_P {C dx b pp : Addr} {fs : List (Str × V)} {f : Str} {Q : VK} {bb : Bool} (I : Inv X pins σ H s) (eb : H b = some (.ins C dx fs)) (c : Cls X.K C) (hp : PropOf X.K C f pp a) (F : CalF X.prog X.w X.K X.mg X.base CX0 k a x q st dvs kvs ps sp) (hr : Room (k + 1) X.A)
    (hb : Bs X.K x q st dvs kvs ps 1 [] [0]) (h : sp [.ref b] H Q (E σ)) : wpAny (model X.prog X.w) X.A (getAttr (.ref b) f bb) (EP X pins σ Q) X.xe s := by
  obtain ⟨fd, F, FD⟩ := F.ex
  obtain ⟨g, hb⟩ := hb a fd FD
  obtain ⟨mA, O, _, _, _, _⟩ := ins_get I.hok eb
  obtain ⟨od, J, _⟩ := O.look
  obtain ⟨rest, hrec⟩ := hp.rec_
  have I1 := I.tok (s.toks + 1)
  have hc : (PySem.W.clsIn X.K C).isSome = true := by
    obtain ⟨cd, hc, _⟩ := PySem.W.any_some c.hd
    rw [hc]
    rfl
  have rr : Vals [V.ref b] [Value.ref b] := .cons rfl .nil
  have r2 := hb.rel rr .nil
  rw [show perm [0] ([V.ref b] ++ dvs ++ []) = [V.ref b] from rfl] at r2
  refine PySem.W.get_bind I.kIn J (PySem.W.plainGet_of (c.get f)).1 (PySem.W.findObj_data hc hp.at_ hp.get hp.tak) (PySem.W.plainGet_of (c.get f)).2 (wpAny_call (PySem.W.prop_get (s := { s with toks := s.toks + 1 }) I.kIn hrec ?_))
  refine codeAny_mono (F.run X.A.in1 X.stack { s with toks := s.toks + 1 } H ⟨[.ref b], []⟩ (g [.ref b] []) [.ref b] Q (E σ) hr.in1 I1.env0.in1 (hb.to _ [.ref b] [] I1.kIn rfl rfl) r2 h) fun res s' hq => ?_
  cases res with
  | error er => exact hq.elim
  | ok fl =>
    cases fl with
    | ret u =>
      obtain ⟨v, H', I3, rv, q3⟩ := I1.after hq
      show wpAny _ _ (handedOut u) _ _ _
      rw [PySem.W.handedOut_of (handed_of rv)]
      exact wpAny_pure ⟨v, H', I3, rv, q3⟩
    | next => exact hq.elim
    | brk => exact hq.elim
    | cont => exact hq.elim
theorem pe_propP {K : PySem.W.Frag} {e : Expr} {f : Str} (he : PE X e ta) (F : CalF X.prog X.w X.K X.mg X.base CX0 k a x q st dvs kvs ps sp) (hr : Room (k + 1) X.A) (hb : Bs X.K x q st dvs kvs ps 1 [] [0])
    (hab : attributeBase e f X.env (eval e X.env) = eval e X.env := by rfl) (hK : X.K = K := by rfl) : PE X (.Attribute e f pos) (tPropP K f a sp E ta) := by
  subst hK
  refine ⟨fun pins s σ H Q I h => ?_⟩
  refine attr_of hab (thn (he.run pins s σ H _ I h) fun u s1 ⟨y, H1, I1, ry, b, C, dx, fs, pp, ey, eb, c, hp, q1⟩ => ?_)
  subst ey
  obtain rfl : u = Value.ref b := ry
  exact getprop_P (E := E) I1 eb c hp F hr hb q1
end
theorem pe_fldK {X : Cx} {K : PySem.W.Frag} {e : Expr} {f : Str} {pos : Pos} {ta : TE} (he : PE X e ta) (hb : attributeBase e f X.env (eval e X.env) = eval e X.env := by rfl) (hK : X.K = K := by rfl) : PE X (.Attribute e f pos) (tFld K ta f) := hK ▸ pe_fld he hb
theorem passAt0 {X : Cx} {E : L2.St → XK} : ∀ σ, PassesAt CX0 X σ (E σ) := fun _ _ _ _ _ _ _ h => h.elim
end My
namespace My
open PySem PySem.Spec PyProof.Rows L2 PySem.W
/-! ### x != y by an own __eq__ -/
section
variable {prog : Program} {w : World} {A : Around} {E : Value → Shared → Prop} {s : Shared} {K : Frag} {x C f : Addr} {ox : Obj} {od : Option Obj} {b tb : Value}
theorem bound_blt {M : Model} {name : Str} {id : String} {args : List Value} {Q : Option Value → Shared → Prop} (X : K.In s.heap) (I : InstAt s.heap x ox C od) (hs : findIn K (.ref C) name = some (some (.builtin id))) (S : Slot "object" name id)
    (h : wpAny M A (call (.builtin id) (.ref x :: args)) (fun v => Q (some v)) E s) : wpAny M A (callSpecialIfBound? (.ref x) name args) Q E s := by
  simp only [callSpecialIfBound?, bindSpecialIfBound?]
  refine wpAny_holding (wpAny_bind (wpAny_bind (wpAny_bind (I.type.here ((looks_findIn X hs).here ?_)))))
  simp only [S.bind]
  refine wpAny_bind (wpAny_askSetting (wpAny_ite ?_))
  have fin : wpAny M A (call (.builtin id) ([.ref x] ++ args) >>= fun v => pure (some v)) Q E s := wpAny_bind (wpAny_mono h (fun v s' h' => wpAny_pure h') fun _ _ h' => h')
  split
  · exact wpAny_bind (wpAny_pure (wpAny_pure fin))
  · exact wpAny_tryCatch (wpAny_bind (wpAny_pure (wpAny_pure fin)))
theorem check_slotK {M : Model} {id owner n : String} {rest : List Value} {Q : Unit → Shared → Prop} (X : K.In s.heap) (I : InstAt s.heap x ox C od) (hk : builtinKind id = some .slot) (hsp : splitId id = some (owner, n)) (ha : argsOk id ⟨.ref x :: rest, []⟩) (ho : subIn K (.ref C) (.type owner) = some true)
    (hq : Q () s) : wpAny M A (checkBuiltinCall id ⟨.ref x :: rest, []⟩) Q E s := by
  simp only [checkBuiltinCall, hk, hsp]
  refine wpAny_bind ?_
  · have LI : Looks M s.heap (isInstance (.ref x) (.type owner)) true := I.type.andThen (looks_subIn X ho)
    refine LI.here ?_
    try simp only [if_true]
    cases hsig : Manifest.signature? id with
    | none =>
      first | exact wpAny_pure hq | exact hq
    | some sig =>
      simp only [argsOk, hsig] at ha
      have h2 : Bind.checkArgs id sig ⟨.ref x :: rest, []⟩ = pure () := ha
      show wpAny M A (Bind.checkArgs id sig ⟨.ref x :: rest, []⟩) Q E _
      rw [h2]; exact wpAny_pure hq
theorem ne_own {Q : Value → Shared → Prop} (hu : A.units + 1 < cLine) (X : K.In s.heap) (I : InstAt s.heap x ox C od) (hb : Looks (model prog w) s.heap (typeOf b) tb) (hn : notFirst K C tb = true)
    (hs : findIn K (.ref C) "__ne__" = some (some (.builtin "object.__ne__"))) (ho : subIn K (.ref C) (.type "object") = some true) (he : findIn K (.ref C) "__eq__" = some (some (.ref f))) (hf : isFn K (.ref f) = true)
    (h : wpAny (model prog w) A.in1 (call (.ref f) [.ref x, b]) (fun v s' => ∃ c, v = .bool c ∧ Q (.bool (!c)) s') E s) : wpAny (model prog w) A (richCompare .NotEq (.ref x) b) Q E s := by
  have body : wpAny (model prog w) A.in1 (Builtin.«object.__ne__» ⟨[.ref x, b], []⟩) (fun r s' => ∃ c, r = .done (.ret (.bool (!c))) ∧ Q (.bool (!c)) s') E s := by
    unfold Builtin.«object.__ne__»
    repeat (first
      | with_reducible refine wpAny_cRoomFor (show A.in1.units < cLine from hu) ?_
      | (refine wpAny_bind (m := callSpecialIfBound? (.ref x) (Str.ofString "__eq__") [b])
          (ifBound_K X I he hf (wpAny_mono h (fun r s' hr => by
            obtain ⟨c, rfl, hq⟩ := hr
            repeat (first | exact ⟨c, rfl, hq⟩ | exact wpAny_pure ⟨c, rfl, hq⟩ | exact wpAny_truthy_bool ⟨c, rfl, hq⟩ | (refine wpAny_bind (m := truthy (.bool _)) (wpAny_truthy_bool ?_)) | wp_step)) fun _ _ e => e)))
      | wp_step)
  have one : wpAny (model prog w) A (tryCompare (.ref x) "__ne__" b) (fun r s' => ∃ v, r = some v ∧ Q v s') E s := by
    unfold tryCompare
    refine wpAny_bind (bound_blt X I hs F.cmp_object.ne (wpAny_call (codeAny_call_builtin F.cmp_object.ne.plain F.cmpEntry_ne (check_slotK X I F.cmpKind_ne F.cmpSplit_ne (F.cmpArgs_ne _ _) ho (wpAny_mono body (fun r s' hr => ?_) fun _ _ e => e)))))
    obtain ⟨c, rfl, hq⟩ := hr
    first | exact wpAny_pure ⟨_, rfl, hq⟩ | exact ⟨_, rfl, hq⟩
  unfold richCompare
  simp only [oneThing_ref]
  refine wpAny_holding (wpAny_bind (wpAny_cRoomFor (Nat.lt_of_succ_lt hu) ?_))
  rw [cmpInfo_NotEq]
  dsimp only
  refine wpAny_bind (I.type.here (wpAny_bind (hb.here ?_)))
  split
  · rename_i q
    have e : subIn K tb (.ref C) = some false := by
      rcases Bool.or_eq_true_iff.mp hn with e | e
      · rw [beq_iff_eq.mp e] at q; simp at q
      · exact beq_iff_eq.mp e
    refine wpAny_bind ((looks_subIn X e).here ?_)
    simp only [Bool.false_eq_true, if_false]
    refine wpAny_bind (wpAny_mono one (fun r s' z => ?_) fun _ _ e => e)
    obtain ⟨v, rfl, hq⟩ := z
    exact wpAny_pure hq
  · refine wpAny_bind (wpAny_pure ?_)
    simp only [Bool.false_eq_true, if_false]
    refine wpAny_bind (wpAny_mono one (fun r s' z => ?_) fun _ _ e => e)
    obtain ⟨v, rfl, hq⟩ := z
    exact wpAny_pure hq
end
end My
namespace My
open PySem PySem.Spec PyProof.Rows L2
section
variable {P : Program} {w : World} {K : PySem.W.Frag} {mg : Str → Option Value} {base : Heap} {CX : CXT} {k : Nat} {a : Addr} {x q : Str} {st : Stmt} {dvs : List V} {kvs : List (Str × V)} {ps : List Str} {sp : Sp}
/-- two parameters, by their places -/
theorem CalF.raw2 {p1 p2 : Str} (C : CalF P w K mg base CX k a x q st dvs kvs [p1, p2] sp) (hb : Bs K x q st dvs kvs [p1, p2] 2 [] [0, 1]) : FnR P w K mg base CX k a sp := by
  obtain ⟨fd, F, FD⟩ := C.ex
  obtain ⟨g, hb⟩ := hb a fd FD
  intro A outer s H us vs Q E hr e0 r hs
  have hl := F.len _ _ _ _ hs
  match vs, hl, r, hs with
  | [v1, v2], _, r, hs =>
    have r2 := hb.rel r .nil
    rw [show perm [0, 1] ([v1, v2] ++ dvs ++ []) = [v1, v2] from rfl] at r2
    exact F.run A outer s H ⟨us, []⟩ (g us []) [v1, v2] Q E hr e0 (hb.to s us [] (e0.mod.kin.keeps fun b o e => (e0.bs b o e).1) r.length.symm rfl) r2 hs
theorem CalF.raw1 {p1 : Str} (C : CalF P w K mg base CX k a x q st dvs kvs [p1] sp) (hb : Bs K x q st dvs kvs [p1] 1 [] [0]) : FnR P w K mg base CX k a sp := by
  obtain ⟨fd, F, FD⟩ := C.ex
  obtain ⟨g, hb⟩ := hb a fd FD
  intro A outer s H us vs Q E hr e0 r hs
  have hl := F.len _ _ _ _ hs
  match vs, hl, r, hs with
  | [v1], _, r, hs =>
    have r2 := hb.rel r .nil
    rw [show perm [0] ([v1] ++ dvs ++ []) = [v1] from rfl] at r2
    exact F.run A outer s H ⟨us, []⟩ (g us []) [v1] Q E hr e0 (hb.to s us [] (e0.mod.kin.keeps fun b o e => (e0.bs b o e).1) r.length.symm rfl) r2 hs
end
/-! ### == and != of instances, by the own methods that a list tells -/
section
variable {X : Cx} {n : Nat} {l : List (Addr × Sp)}
def rEqO (K : PySem.W.Frag) (l : List (Addr × Sp)) : R2 := fun x y H Q => ∃ a C dx vs b C' dy ws g sp, x = .ref a ∧ y = .ref b ∧ H a = some (.ins C dx vs) ∧ H b = some (.ins C' dy ws) ∧ PySem.W.notFirst K C (.ref C') = true ∧
  PySem.W.findIn K (.ref C) "__eq__" = some (some (.ref g)) ∧ PySem.W.isFn K (.ref g) = true ∧ (g, sp) ∈ l ∧ sp [x, y] H Q E0
theorem op_eqO (F : ∀ p ∈ l, FnR X.prog X.w X.K X.mg X.base CX0 n p.1 p.2) (hr : Room n X.A) : OpR X (compareOp .Eq) (rEqO X.K l) := by
  intro pins s σ H x y v u Q I rx ry h
  obtain ⟨a, C, dx, vs, b, C', dy, ws, g, sp, rfl, rfl, ha, hb, hn, hs, hf, hl, q⟩ := h
  cases (show v = Value.ref a from rx)
  cases (show u = Value.ref b from ry)
  obtain ⟨od, J⟩ := ins_inst I ha
  obtain ⟨od', J'⟩ := ins_inst I hb
  obtain ⟨m, hF⟩ := I.fr
  rw [show compareOp .Eq (.ref a) (.ref b) = richCompare .Eq (.ref a) (.ref b) from rfl]
  refine PySem.W.cmp_K (op := .Eq) (tb := .ref C') hr.units0 hF I.ok.mod.kin J J'.type hn hs hf ?_
  refine wpAny_mono (wpAny_call (run_fnR (us := [.ref a, .ref b]) (vs := [.ref a, .ref b]) (F _ hl) hr pass0 I (.cons rfl (.cons rfl .nil)) q)) (fun w s' z => ?_) fun _ _ x => x
  obtain ⟨z', H', I', rz, qz⟩ := z
  exact SlX.cmpback rz ⟨z', H', I', rz, qz⟩
def rNeO (K : PySem.W.Frag) (l : List (Addr × Sp)) : R2 := fun x y H Q => ∃ a C dx vs b C' dy ws g sp, x = .ref a ∧ y = .ref b ∧ H a = some (.ins C dx vs) ∧ H b = some (.ins C' dy ws) ∧ PySem.W.notFirst K C (.ref C') = true ∧
  PySem.W.findIn K (.ref C) "__ne__" = some (some (.builtin "object.__ne__")) ∧ PySem.W.subIn K (.ref C) (.type "object") = some true ∧
  PySem.W.findIn K (.ref C) "__eq__" = some (some (.ref g)) ∧ PySem.W.isFn K (.ref g) = true ∧ (g, sp) ∈ l ∧ sp [x, y] H (fun z H' => ∃ c, z = .bl c ∧ Q (.bl (!c)) H') E0
theorem op_neO (F : ∀ p ∈ l, FnR X.prog X.w X.K X.mg X.base CX0 n p.1 p.2) (hr : Room (n + 1) X.A) : OpR X (compareOp .NotEq) (rNeO X.K l) := by
  intro pins s σ H x y v u Q I rx ry h
  obtain ⟨a, C, dx, vs, b, C', dy, ws, g, sp, rfl, rfl, ha, hb, hn, hs, ho, he, hf, hl, q⟩ := h
  cases (show v = Value.ref a from rx)
  cases (show u = Value.ref b from ry)
  obtain ⟨od, J⟩ := ins_inst I ha
  obtain ⟨od', J'⟩ := ins_inst I hb
  rw [show compareOp .NotEq (.ref a) (.ref b) = richCompare .NotEq (.ref a) (.ref b) from rfl]
  refine ne_own (tb := .ref C') (by have := hr.un; omega) I.kIn J J'.type hn hs ho he hf ?_
  refine wpAny_call (codeAny_mono (F _ hl X.A.in1 X.stack s H [.ref a, .ref b] [.ref a, .ref b] _ E0 hr.in1 I.env0.in1 (.cons rfl (.cons rfl .nil)) q) fun res s' hq => ?_)
  cases res with
  | error er => exact hq.elim
  | ok fl =>
    cases fl with
    | ret u =>
      obtain ⟨z', H', I', rz, c, rfl, qz⟩ := I.after hq
      cases (show u = Value.bool c from rz)
      exact ⟨c, rfl, .bl (!c), H', I', rfl, qz⟩
    | next => exact hq.elim
    | brk => exact hq.elim
    | cont => exact hq.elim
/-- y in x, y not in x, where x is an instance with its own __contains__ -/
def rInO (K : PySem.W.Frag) (neg : Bool) (l : List (Addr × Sp)) : R2 := fun y x H Q => ∃ a C dx vs g sp, x = .ref a ∧ H a = some (.ins C dx vs) ∧ PySem.W.findIn K (.ref C) "__contains__" = some (some (.ref g)) ∧ PySem.W.isFn K (.ref g) = true ∧ (g, sp) ∈ l ∧
  sp [x, y] H (fun z H' => ∃ b, z = .bl b ∧ Q (.bl (if neg then !b else b)) H') E0
theorem op_inO (F : ∀ p ∈ l, FnR X.prog X.w X.K X.mg X.base CX0 n p.1 p.2) (hr : Room n X.A) : OpR X (compareOp .In) (rInO X.K false l) := by
  intro pins s σ H y x u v Q I ry rx h
  obtain ⟨a, C, dx, vs, g, sp, rfl, ha, hs, hf, hl, q⟩ := h
  exact op_inI (sp := sp) (E := E0) hs hf (F _ hl) hr pass0 pins s σ H y (.ref a) u v Q I ry rx ⟨a, dx, vs, rfl, ha, q⟩
theorem op_niO (F : ∀ p ∈ l, FnR X.prog X.w X.K X.mg X.base CX0 n p.1 p.2) (hr : Room n X.A) : OpR X (compareOp .NotIn) (rInO X.K true l) := by
  intro pins s σ H y x u v Q I ry rx h
  obtain ⟨a, C, dx, vs, g, sp, rfl, ha, hs, hf, hl, q⟩ := h
  exact op_notInI (sp := sp) (E := E0) hs hf (F _ hl) hr pass0 pins s σ H y (.ref a) u v Q I ry rx ⟨a, dx, vs, rfl, ha, q⟩
/-! unions with the plain ones -/
def rEqA (K : PySem.W.Frag) (l : List (Addr × Sp)) : R2 := fun x y H Q => rEqU K x y H Q ∨ rEqO K l x y H Q
def rNeA (K : PySem.W.Frag) (l : List (Addr × Sp)) : R2 := fun x y H Q => rNeU K x y H Q ∨ rNeO K l x y H Q
def rInA (K : PySem.W.Frag) (l : List (Addr × Sp)) : R2 := fun x y H Q => rInU K x y H Q ∨ rInO K false l x y H Q
def rNiA (K : PySem.W.Frag) (l : List (Addr × Sp)) : R2 := fun x y H Q => rNotInU K x y H Q ∨ rInO K true l x y H Q
theorem cm_EqA {K : PySem.W.Frag} (F : ∀ p ∈ l, FnR X.prog X.w X.K X.mg X.base CX0 n p.1 p.2) (hr : Room n X.A) (hK : X.K = K := by rfl) : OpR X (compareOp .Eq) (rEqA K l) := hK ▸ (cm_Eq hr.units).or (op_eqO F hr)
theorem cm_NeA {K : PySem.W.Frag} (F : ∀ p ∈ l, FnR X.prog X.w X.K X.mg X.base CX0 n p.1 p.2) (hr : Room (n + 1) X.A) (hK : X.K = K := by rfl) : OpR X (compareOp .NotEq) (rNeA K l) := hK ▸ (cm_NotEq hr.units).or (op_neO F hr)
theorem cm_InA {K : PySem.W.Frag} (F : ∀ p ∈ l, FnR X.prog X.w X.K X.mg X.base CX0 n p.1 p.2) (hr : Room n X.A) (hK : X.K = K := by rfl) : OpR X (compareOp .In) (rInA K l) := hK ▸ (cm_In (hu65 hr)).or (op_inO F hr)
theorem cm_NiA {K : PySem.W.Frag} (F : ∀ p ∈ l, FnR X.prog X.w X.K X.mg X.base CX0 n p.1 p.2) (hr : Room n X.A) (hK : X.K = K := by rfl) : OpR X (compareOp .NotIn) (rNiA K l) := hK ▸ (cm_NotIn (hu65 hr)).or (op_niO F hr)
end
/-! ### slices of tuples, [::-1], < of rows of texts -/
def rSlV (K : PySem.W.Frag) : V → Option Int → Option Int → Hp → VK → Prop := fun x lo hi H Q => rSlU K x lo hi H Q ∨ rSlA K x lo hi H Q
theorem sl_all {X : Cx} {K : PySem.W.Frag} (hK : X.K = K := by rfl) : SlR X (rSlV K) := hK ▸ (sl_any (X := X)).or sl_tupA
end My
namespace My
open PySem PySem.Spec PyProof.Rows L2
/-! ### t[::-1] -/
section
variable {prog : Program} {w : World} {A : Around} {E : Value → Shared → Prop} {s : Shared}
theorem back_places (n : Nat) : Builtin.Slice.slicePlaces ((n : Int) - 1) (-1) (-1) = n := by
  unfold Builtin.Slice.slicePlaces
  have h1 : ¬ ((-1 : Int) > 0) := by omega
  simp only [h1, if_false]
  split
  · have e : ((n : Int) - 1 - -1 - 1) / (- -1) = (n : Int) - 1 := by
      rw [show (- -1 : Int) = 1 by decide, Int.ediv_one]
      omega
    rw [e]
    omega
  · omega
theorem back_pick (xs : Array Value) : ((List.range xs.size).filterMap fun (m : Nat) => xs[(((xs.size : Nat) : Int) - 1 + (m : Int) * -1).toNat]?).toArray = xs.toList.reverse.toArray := by
  congr 1
  have h1 : (List.range xs.size).filterMap (fun (m : Nat) => xs[(((xs.size : Nat) : Int) - 1 + (m : Int) * -1).toNat]?) = ((List.range xs.size).map fun k => xs.size - 1 - k).filterMap (xs[·]?) := by
    rw [List.filterMap_map]
    have cg : ∀ (l : List Nat) (f g : Nat → Option Value), (∀ k ∈ l, f k = g k) → l.filterMap f = l.filterMap g := by
      intro l f g hl
      induction l with
      | nil => rfl
      | cons k l ih =>
        rw [List.filterMap_cons, List.filterMap_cons, hl k List.mem_cons_self, ih fun j hj => hl j (List.mem_cons_of_mem _ hj)]
    apply cg
    intro k hk
    have := List.mem_range.mp hk
    show xs[(((xs.size : Nat) : Int) - 1 + (k : Int) * -1).toNat]? = xs[xs.size - 1 - k]?
    congr 1
    omega
  rw [h1, PySem.W.krv_range, List.filterMap_reverse, PySem.W.krv_all]
theorem applied_back {sl : Addr} {vl vu vs : Value} {n : Nat} {Q : Int × Int × Nat → Shared → Prop} (hs : s.heap.IsSliceOf sl vl vu vs) (pl : IsPart vl none) (pu : IsPart vu none) (ps : IsPart vs (some (-1)))
    (h : Q ((n : Int) - 1, -1, n) s) : wpAny (model prog w) A (Builtin.Slice.sliceApplied (.ref sl) (pure (n : Int))) Q E s := by
  obtain ⟨os, hos, hcs, hds⟩ := id hs
  unfold Builtin.Slice.sliceApplied Builtin.Slice.sliceFields
  refine wpAny_bind (wpAny_bind (wpAny_field hos hds (x := vl) rfl (wpAny_bind (wpAny_field hos hds (x := vu) rfl (wpAny_bind (wpAny_field hos hds (x := vs) rfl (wpAny_pure ?_)))))))
  refine wpAny_bind (HT.slicePart_ ps ?_)
  show wpAny _ _ (if ((-1 : Int) == 0) = true then _ else _) _ _ s
  rw [if_neg (by decide)]
  refine wpAny_bind (HT.slicePart_ pl (wpAny_bind (HT.slicePart_ pu (wpAny_bind (wpAny_pure ?_)))))
  show wpAny _ _ (pure ((n : Int) - 1, (-1 : Int), Builtin.Slice.slicePlaces ((n : Int) - 1) (-1) (-1))) _ _ s
  rw [back_places]
  exact wpAny_pure h
theorem item_back {t sl : Addr} {items : Array Value} {vl vu vs : Value} {Q : Value → Shared → Prop} (ht : IsTup s.heap t items) (hs : s.heap.IsSliceOf sl vl vu vs) (pl : IsPart vl none) (pu : IsPart vu none) (ps : IsPart vs (some (-1)))
    (h : Q (.ref s.heap.objs.size) { s with heap := s.heap.push { cls := .type "tuple", data := .seq items.toList.reverse.toArray } }) (hsz : items.size ≤ sizeLine) : wpAny (model prog w) A (getItem (.ref t) (.ref sl)) Q E s := by
  have htake : sizeOk (.seq items.toList.reverse.toArray) := by
    show items.toList.reverse.toArray.size ≤ sizeLine
    rw [List.size_toArray, List.length_reverse, Array.length_toList]
    exact hsz
  obtain ⟨os, hos, hcs, hds⟩ := id hs
  have hTs : s.TypeIs (.ref sl) "slice" := ⟨os, hos, hcs⟩
  unfold getItem
  try with_reducible refine wpAny_holding ?_
  first | refine wpAny_bind (wpAny_pure ?_) | skip
  refine wpAny_bind (wpAny_sequenceKey ht.typeIs (by decide) ?_)
  refine wpAny_bind (wpAny_callSpecial?_slot (name := Str.ofString "__getitem__") ht.typeIs PyProof.Rows.slot_tuple_getitem
    (wpAny_call_entry PyProof.Rows.slot_tuple_getitem ht.typeIs entry_tuple_getitem ?_ (args_tuple_getitem _ _)))
  show wpAny _ _ (Builtin.Tuple.tupleItemsOf (.ref t) >>= _) _ _ s
  refine wpAny_bind (tupleItemsOf_ ht ?_)
  refine wpAny_bind (wpAny_typeOf hTs ?_)
  rw [if_pos (by decide)]
  refine wpAny_bind (applied_back (n := items.size) hs pl pu ps ?_)
  show wpAny _ _ (if ((((items.size : Nat) : Int) - 1) == 0 && (-1 : Int) == 1 && items.size == items.size) = true then _ else _) _ _ s
  rw [if_neg (by simp), back_pick]
  first
    | exact wpAny_bind (m := Builtin.Tuple.tupleExact _) (wpAny_newObj_type (wpAny_pure ⟨_, rfl, wpAny_pure h⟩) htake)
    | exact wpAny_bind (m := Builtin.Tuple.tupleExact _) (wpAny_newObj_type (wpAny_bind (wpAny_pure (wpAny_pure ⟨_, rfl, wpAny_pure h⟩))) htake)
    | exact wpAny_bind (wpAny_bind (m := Builtin.Tuple.tupleExact _) (wpAny_newObj_type (wpAny_pure (wpAny_pure ⟨_, rfl, wpAny_pure h⟩)) htake))
    | exact wpAny_bind (wpAny_bind (m := Builtin.Tuple.tupleExact _) (wpAny_newObj_type (wpAny_pure ⟨_, rfl, wpAny_pure h⟩) htake))
end
section
variable {X : Cx}
def tRevT (K : PySem.W.Frag) (te : TE) : TE := fun σ H Q => te σ H fun x H1 => ∃ a xs, x = .ref a ∧ SqT K H1 a xs ∧ ∀ p, H1 p = none → Q (.ref p) (upd H1 p (.tup xs.reverse))
theorem pe_revT {e : Expr} {te : TE} {k : Nat} {p1 p2 p3 pos : Pos} (he : PE X e te) : PE X (.Subscript e (.Slice none none (some (.UnaryOp .USub (.Constant (.int 1) k p1) p2)) p3) pos) (tRevT X.K te) := by
  refine ⟨fun pins s σ H Q I h => ?_⟩
  refine Subscript_ (thn (he.run pins s σ H _ I h) fun v s1 ⟨x, H1, I1, r1, q1⟩ => ?_)
  obtain ⟨a, xs, ex, hx, q⟩ := q1
  subst ex
  cases r1
  have hst : PO X (some (.UnaryOp .USub (.Constant (.int 1) k p1) p2)) (tPart (tUn (rU fun i => .int (-i)) (tC (.int 1)))) := po_some (pe_un un_neg pe_int)
  refine wpAny_Slice (thn (po_none.run pins s1 σ H1 (fun o H2 => o = none ∧ H2 = H1) I1 ⟨rfl, rfl⟩) fun vl s2 ⟨l, H2, I2, pl, el, e2⟩ => ?_)
  subst el e2
  refine thn (po_none.run pins s2 σ H2 (fun o H3 => o = none ∧ H3 = H2) I2 ⟨rfl, rfl⟩) fun vu s3 ⟨u, H3, I3, pu, eu, e3⟩ => ?_
  subst eu e3
  refine thn (hst.run pins s3 σ H3 (fun o H4 => o = some (-1) ∧ H4 = H3) I3 ⟨1, rfl, -1, rfl, rfl, rfl⟩) fun vs s4 ⟨o, H4, I4, ps, eo, e4⟩ => ?_
  subst eo e4
  have I5 : Inv X pins σ H4 { s4 with heap := s4.heap.push { cls := .type "slice", data := .fields #[vl, vu, vs] } } := I4.kept (t' := s4.toks) fun b ob q => Heap.get?_push_of_some _ q
  obtain ⟨its, r, ht, hz⟩ := I5.tuple hx
  have hlen := r.length
  refine tail_any (ops := [.ref a, .ref s4.heap.objs.size]) ht.typeIs PyProof.Rows.slot_tuple_getitem.lookup ?_ (by with_unfolding_all rfl)
  refine item_back ht (Heap.IsSliceOf.new _ vl vu vs) pl pu ps ?_ (by rw [List.size_toArray]; omega)
  refine ⟨.ref _, _, I5.laid (t' := s4.toks) (o := .tup xs.reverse) (fun b ob q => Heap.get?_push_of_some _ q) (Nat.le_refl _) ?_, rfl, q _ (I5.hok.fresh (Nat.le_refl _))⟩
  exact ⟨by rw [List.length_reverse]; exact hz, _, r.reverse, IsTup.new _ _⟩
def tRev (K : PySem.W.Frag) (te : TE) : TE := fun σ H Q => tRevL K te σ H Q ∨ tRevT K te σ H Q
theorem pe_rev {K : PySem.W.Frag} {e : Expr} {te : TE} {k : Nat} {p1 p2 p3 pos : Pos} (he : PE X e te) (hK : X.K = K := by rfl) : PE X (.Subscript e (.Slice none none (some (.UnaryOp .USub (.Constant (.int 1) k p1) p2)) p3) pos) (tRev K te) := hK ▸ PE_or (pe_revL he) (pe_revT he)
/-! ### < of data -/
def rLtD (K : PySem.W.Frag) : R2 := fun x y H Q => ∃ a b, Dp K H x a ∧ Dp K H y b ∧ PySem.W.alike a b = true ∧ a ≠ .none ∧ min a.depth b.depth ≤ 8 ∧ Q (.bl (PySem.W.dataLt a b)) H
theorem op_ltD (hu : X.A.units + 64 < cLine) : OpR X (compareOp .Lt) (rLtD X.K) := by
  intro pins s σ H x y v u Q I rx ry h
  obtain ⟨a, b, da, db, ha, hn, hd, q⟩ := h
  obtain ⟨as, ra⟩ := Dp.reads I a x v da rx
  obtain ⟨bs, rb⟩ := Dp.reads I b y u db ry
  exact PySem.W.rcLt_alike a b X.A s v u as bs ra rb ha hn (by omega) X.prog X.w _ _ ⟨.bl (PySem.W.dataLt a b), H, I, rfl, q⟩
def rLtA (K : PySem.W.Frag) : R2 := fun x y H Q => rLtU x y H Q ∨ rLtD K x y H Q
theorem cm_LtA {K : PySem.W.Frag} (hu : X.A.units + 64 < cLine) (hK : X.K = K := by rfl) : OpR X (compareOp .Lt) (rLtA K) := hK ▸ (cm_Lt (X := X)).or (op_ltD hu)
end
end My
namespace My
open PySem PySem.Spec PyProof.Rows L2
/-! ### what the head tells: defs at any place, one Bool -/
structure DefP where
  pa : PySem.W.Frag → Addr
  name : Str
  qual : Str
  params : Arguments
  body : List Stmt
  scope : Scope
  dfl : List He.Dv := []
  kwd : List (Str × He.Dv) := []
  /-- an __init__ that says super(): of which class, in which file -/
  err : Option ((PySem.W.Frag → Addr) × Str) := none
def fnP (K : PySem.W.Frag) (a : Addr) (cl : Bool := false) : He.FnW := match K.lookup a with
  | some ⟨_, _, .func g, _⟩ => some (g.name, g.qualname, g.params, g.body, g.scope, g.globals, (if cl then [] else g.closure), g.builtins)
  | _ => none
def fileB (vs : Array Value) (file : Str) : Bool := match (vs[2]? : Option Value) with
  | some (.str f _) => decide (f = file)
  | _ => false
/-- the closure holds the class, the code the file -/
def closB (K : PySem.W.Frag) (C : Addr) (file : Str) (g : FuncData) : Bool := (match g.closure with
    | [(n, cc)] => decide (n = ("__class__" : Str)) && (match K.lookup cc with
      | some ⟨_, _, .cell (some (.ref D)), _⟩ => decide (D = C)
      | _ => false)
    | _ => false) && (match g.code with
    | .ref cda => (match K.lookup cda with
      | some ⟨_, _, .fields vs, _⟩ => fileB vs file
      | _ => false)
    | _ => false)
def DefP.val (d : DefP) : He.FnW := some (d.name, d.qual, d.params, .stmts d.body, d.scope, mainGlobals, [], builtinsNs)
def DefP.dvs (K : PySem.W.Frag) (d : DefP) : List V := d.dfl.map (He.Dv.v K)
def DefP.kws (K : PySem.W.Frag) (d : DefP) : List (Str × V) := d.kwd.map fun q => (q.1, q.2.v K)
def DefP.ok (K : PySem.W.Frag) (d : DefP) : Bool := PySem.W.keepIn K (.ref (d.pa K)) && (match K.lookup (d.pa K) with
  | some ⟨_, _, .func g, _⟩ => PySem.W.codeIn K g.code d.qual && ((He.dflB K g.defaults (d.dvs K) && He.kwdB K g.kwdefaults (d.kws K)) && (match d.err with
    | some (C, f) => closB K (C K) f g
    | none => true))
  | _ => false)
theorem DefP.funD {K : PySem.W.Frag} {d : DefP} (hn : d.err = none) (e : fnP K (d.pa K) d.err.isSome = d.val) (c : d.ok K = true) : ∃ g, FunD K d.name d.qual d.params d.body d.scope (d.dvs K) (d.kws K) (d.pa K) g := by
  obtain ⟨kp, c2⟩ := He.ba c
  rw [hn] at e
  unfold fnP at e
  cases q : K.lookup (d.pa K) with
  | none =>
    rw [q] at c2
    cases c2
  | some o =>
    obtain ⟨oc, od, dt, osl⟩ := o
    rw [q] at c2 e
    cases dt with
    | func g =>
      obtain ⟨m1, m2, m3, m4, m5, m6, m7, m8, m9, m10, m11, m12, m13, m14, m15⟩ := g
      have e2 : (some (m1, m2, m3, m4, m5, m6, m7, m15) : He.FnW) = d.val := e
      unfold DefP.val at e2
      simp only [Option.some.injEq, Prod.mk.injEq] at e2
      obtain ⟨h1, h2, h3, h4, h5, h6, h7, h8⟩ := e2
      subst h1 h2 h3 h4 h5 h6 h7 h8
      obtain ⟨k1, k2⟩ := He.ba (show (PySem.W.codeIn K m13 d.qual && _) = true from c2)
      obtain ⟨k2, _⟩ := He.ba k2
      obtain ⟨k3, k4⟩ := He.ba k2
      exact ⟨_, ⟨oc, od, m8, m9, m10, m11, m12, m13, m14, osl, rfl, q, k1, He.dflB_ok k3, He.kwdB_ok k4⟩, kp⟩
    | _ => cases c2
abbrev AlY : Type := Bool × List He.FnW
def obsK (ex : PySem.W.Frag → Bool) (fn : List DefP) (K : PySem.W.Frag) : AlY := (ex K && fn.all (fun d => d.ok K), fn.map fun d => fnP K (d.pa K) d.err.isSome)
def valY (fn : List DefP) : AlY := (true, fn.map DefP.val)
def obsY (n : Nat) (ex : PySem.W.Frag → Bool) (fn : List DefP) (g : Addr → Option Obj) : AlY := obsK ex fn (He.frT g (He.asD g n ++ [cStatics]))
structure SaysY (ex : PySem.W.Frag → Bool) (fn : List DefP) (K : PySem.W.Frag) : Prop where
  e : obsK ex fn K = valY fn
def hookY (n : Nat) (ex : PySem.W.Frag → Bool) (fn : List DefP) : PySem.W.Hook where
  α := AlY
  obs := fun s => obsY n ex fn s.heap.get?
  val := fun _ => valY fn
  says := fun _ h => ∃ K : PySem.W.Frag, K.In h ∧ SaysY ex fn K
  of := fun _ _ z => ⟨_, He.frT_in, ⟨z⟩⟩
  keeps := fun _ _ _ ⟨K, hK, c⟩ k => ⟨K, PySem.W.Frag.In.keeps hK k, c⟩
theorem obsY_eq {n : Nat} {ex : PySem.W.Frag → Bool} {fn : List DefP} {g : Addr → Option Obj} {s : Shared} (h : ∀ a, g a = s.heap.get? a) : obsY n ex fn g = (hookY n ex fn).obs s := by
  have e : g = s.heap.get? := funext h
  rw [e] <;> rfl
theorem SaysY.more {ex : PySem.W.Frag → Bool} {fn : List DefP} {K : PySem.W.Frag} (c : SaysY ex fn K) : ex K = true := (He.ba (show (ex K && fn.all (fun d => d.ok K)) = true from congrArg (fun z : AlY => z.1) c.e)).1
theorem SaysY.obs_ {ex : PySem.W.Frag → Bool} {fn : List DefP} {K : PySem.W.Frag} (c : SaysY ex fn K) (i : Nat) {d : DefP} (h : fn[i]? = some d) : fnP K (d.pa K) d.err.isSome = d.val ∧ d.ok K = true := by
  have c2 := (He.ba (show (ex K && fn.all (fun d => d.ok K)) = true from congrArg (fun z : AlY => z.1) c.e)).2
  have e : fn.map (fun d => fnP K (d.pa K) d.err.isSome) = fn.map DefP.val := congrArg (fun z : AlY => z.2) c.e
  have e1 : (fn.map (fun d => fnP K (d.pa K) d.err.isSome))[i]? = (fn.map DefP.val)[i]? := by rw [e]
  rw [List.getElem?_map, List.getElem?_map, h] at e1
  exact ⟨Option.some.inj e1, List.all_eq_true.mp c2 d (List.mem_of_getElem? h)⟩
theorem SaysY.def_ {ex : PySem.W.Frag → Bool} {fn : List DefP} {K : PySem.W.Frag} (c : SaysY ex fn K) (i : Nat) {d : DefP} (h : fn[i]? = some d := by rfl) (hn : d.err = none := by rfl) : ∃ g, FunD K d.name d.qual d.params d.body d.scope (d.dvs K) (d.kws K) (d.pa K) g := by
  obtain ⟨e, k⟩ := c.obs_ i h
  exact DefP.funD hn e k
/-! ### properties, by their places -/
/-- the property's object, its getter -/
def pp (K : PySem.W.Frag) (c f : Str) : Addr := He.ma K (He.ga K c) f
def gp (K : PySem.W.Frag) (c f : Str) : Addr := match PySem.W.recIn K (pp K c f) "property" with
  | some (.ref g :: _) => g
  | _ => 0
def propB (K : PySem.W.Frag) (c : Str) (f : Str) (a : Addr) : Bool := decide (PySem.W.findIn K (.ref (He.ga K c)) f = some (some (.ref (pp K c f)))) && (decide (PySem.W.specialIn K (.ref (pp K c f)) "__get__" = some (some (.builtin "property.__get__"))) &&
  (decide (PySem.W.takesIn K (.ref (pp K c f)) = some true) && (match PySem.W.recIn K (pp K c f) "property" with
  | some (.ref g :: _) => decide (g = a)
  | _ => false)))
theorem propB_ok {K : PySem.W.Frag} {c f : Str} {a : Addr} (h : propB K c f a = true) : ∃ p, PropOf K (He.ga K c) f p a := by
  obtain ⟨h1, h2⟩ := He.ba h
  obtain ⟨h3, h4⟩ := He.ba h2
  obtain ⟨h5, h6⟩ := He.ba h4
  refine ⟨pp K c f, of_decide_eq_true h1, of_decide_eq_true h3, of_decide_eq_true h5, ?_⟩
  split at h6
  · rename_i g rest e
    rw [← of_decide_eq_true h6]
    exact ⟨rest, e⟩
  · cases h6
def propsB (K : PySem.W.Frag) (cs : List String) (f : String) (a : Addr) : Bool := cs.all fun c => propB K c f a
theorem propsB_ok {K : PySem.W.Frag} {cs : List String} {f : String} {a : Addr} (h : propsB K cs f a = true) : ∀ c ∈ cs, ∃ p, PropOf K (He.ga K c) (f : Str) p a := fun c hc => propB_ok (List.all_eq_true.mp h c hc)
def methB (K : PySem.W.Frag) (cs : List String) (m : String) (a : Addr) : Bool := cs.all fun c => decide (PySem.W.findIn K (.ref (He.ga K c)) (m : Str) = some (some (.ref a))) && (PySem.W.isFn K (.ref a) && PySem.W.keepIn K (.ref a))
theorem methB_ok {K : PySem.W.Frag} {cs : List String} {m : String} {a : Addr} (h : methB K cs m a = true) : ∀ c ∈ cs, Meth K (He.ga K c) (m : Str) a := fun c hc => by
  obtain ⟨h1, h2⟩ := He.ba (List.all_eq_true.mp h c hc)
  obtain ⟨h3, h4⟩ := He.ba h2
  exact ⟨of_decide_eq_true h1, h3, h4⟩
end My
namespace My
open PySem PySem.Spec PyProof.Rows L2
/-! ### defs that are called where no repr is under way -/
structure FnG (P : Program) (w : World) (K : PySem.W.Frag) (mg : Str → Option Value) (base : Heap) (CX : CXT) (k : Nat) (f : Addr) (fd : FuncData) (ps : List Str) (sp : Sp) : Prop where
  len : ∀ vs H Q E, sp vs H Q E → vs.length = ps.length
  run : ∀ (A : Around) (outer : List Env) (s : Shared) (H : Hp) (args : Args) (us : List Value) (vs : List V) (Q : VK) (E : XK), Room k A → A.guards = some [] → Env0 P w K mg base A outer s H → BindsTo s fd args (ps.zip us) → Vals vs us → sp vs H Q E →
    codeAny (model P w) A (.call (.ref f) args) (CR CX outer P w H s Q E) s
section
variable {P : Program} {w : World} {K : PySem.W.Frag} {mg : Str → Option Value} {base : Heap} {CX : CXT} {j k : Nat} {f : Addr} {fd : FuncData} {ps N : List Str} {sp : Sp} {x q : Str} {st : Stmt} {dvs : List V} {kvs : List (Str × V)}
theorem FnG.of (F : FnOk P w K mg base CX k f fd ps sp) : FnG P w K mg base CX k f fd ps sp := ⟨F.len, fun A outer s H args us vs Q E hr _ => F.run A outer s H args us vs Q E hr⟩
theorem FnG.mono (F : FnG P w K mg base CX j f fd ps sp) (h : j ≤ k) : FnG P w K mg base CX k f fd ps sp := ⟨F.len, fun A outer s H args us vs Q E hr => F.run A outer s H args us vs Q E (hr.mono h)⟩
/-- the body is walked, knowing this -/
theorem fnG_of (F : FunD K x q (defArgs st) (defBody st) (defScope st) dvs kvs f fd) (S : FnScope N ps (defScope st)) (len : ∀ vs H Q E, sp vs H Q E → vs.length = ps.length)
    (hbody : ∀ (cdv : Value) (A : Around) (outer : List Env) (s : Shared) (H : Hp) (vs : List V) (Q : VK) (E : XK), Room k (A.deeper (envOfC q (defScope st) s.heap.objs.size f cdv)) → A.guards = some [] → sp vs H Q E →
      ∃ t, PSs (cxOf CX P w K mg base N q (defScope st) f cdv A outer s H E) (defBody st) t ∧ t { nx := fun _ H' => Q .non H', rt := Q } (start N vs) H) : FnG P w K mg base CX (k + 1) f fd ps sp := by
  obtain ⟨oc, od, dV, kV, doc, pm, an, cdv, ct, osl, rfl, lk, hcd, _, _⟩ := F.ex
  refine ⟨len, fun A outer s H args us vs Q E hr hg e0 hb r hsp => ?_⟩
  have up : ∀ b o, base.get? b = some o → s.heap.get? b = some o := fun b o e => (e0.bs b o e).1
  have KX : K.In s.heap := e0.mod.kin.keeps up
  refine codeAny_call_function hr.depth (KX _ _ lk) rfl S.co S.gen rfl (PySem.W.codeRec_of KX hcd) (hb _ _ _ _ (wpAny_newFunctionEnv_cells S.kind (fun y hy => ?_) fun env he s1 z => ?_))
  · obtain ⟨n, v⟩ := y
    exact (S.par n (List.of_mem_zip hy).1).imp id fun q => ⟨q, PySem.W.cellsFrom_some _ _ _ (.inl q)⟩
  · subst he
    refine ⟨(e0.mod.nolimit.keeps up).keeps z.toInCall.keep, codeAny_func ?_⟩
    obtain ⟨t, ht, hq⟩ := hbody cdv A outer s H vs Q E (hr.deeper _) hg hsp
    refine wpAny_mono (ht.run [] s1 (start N vs) H _ (inv_start S hr.hd e0 (len _ _ _ _ hsp) r z) hq) (fun fl s' hs => ?_) fun e s' hs => hs
    cases fl with
    | ret u =>
      obtain ⟨v, σ', H', J, rv, q⟩ := hs
      exact ⟨v, H', J.os, J.bare, J.base, J.hok, rv, q⟩
    | next =>
      obtain ⟨σ', H', J, q⟩ := hs
      exact ⟨.non, H', J.os, J.bare, J.base, J.hok, rfl, q⟩
    | brk => exact hs.choose_spec.choose_spec.2.elim
    | cont => exact hs.choose_spec.choose_spec.2.elim
end
/-- a def that is called by its name -/
structure CalG (P : Program) (w : World) (K : PySem.W.Frag) (mg : Str → Option Value) (base : Heap) (k : Nat) (x : Str) (ps : List Str) (sp : Sp) : Prop where
  ex : ∃ f fd, FnG P w K mg base CX0 k f fd ps sp ∧ mg x = some (.ref f) ∧ PySem.W.keepIn K (.ref f) = true ∧ Binds K fd ps []
theorem pe_callG {X : Cx} {k : Nat} {x : Str} {ps : List Str} {sp : Sp} {e : Expr} {es : List Expr} {t : TA} {p pos : Pos} (C : CalG X.prog X.w X.K X.mg X.base k x ps sp) (hr : Room k X.A) (hgd : X.A.guards = some []) (hg : Gl X x) (ha : PA X (e :: es) t)
    (hdb : (x == ("__debug__" : Str)) = false := by decide) (he : starEach (e :: es) X.env = (false, eval e X.env) :: starEach es X.env := by rfl) (hpl : (backTo pos (starEach es X.env)).any (·.1) = false := by rfl) : PE X (.Call (.Name x p) (e :: es) [] pos) (tCall sp [] E0 t) := by
  obtain ⟨f, fd, F, hm, hk, hb⟩ := C.ex
  refine ⟨fun pins s σ H Q I h => wpAny_Call_Name_kw (ld_glob I hg hm ?_ hdb)⟩
  refine PySem.W.callWith_K (h₀ := X.base) I.ok.mod.kin hk (thn (ha.run pos pins s σ H _ I h) fun us s1 ⟨vs, H1, I1, r, q⟩ => ⟨I1.kIn, ?_⟩) he hpl
  have hl := F.len _ _ _ _ q
  have r2 : Vals (vs ++ []) (us ++ []) := r.append .nil
  refine wpAny_call (codeAny_mono (F.run X.A X.stack s1 H1 ⟨us, []⟩ (us ++ []) (vs ++ []) Q _ hr hgd I1.env0 (hb s1 us I1.kIn (by rw [← r2.length]; exact hl)) r2 q) fun res s' hq => ?_)
  cases res with
  | error er => exact (pass0 pins σ H1 s1 er s' I1 hq)
  | ok fl =>
    cases fl with
    | ret u => exact I1.after hq
    | next => exact hq.elim
    | brk => exact hq.elim
    | cont => exact hq.elim
theorem Df.calG {P : Program} {w : World} {K : PySem.W.Frag} {mg : Str → Option Value} {base : Heap} {x : Str} {st : Stmt} {N ps : List Str} {k : Nat} {sp : Sp} (F : Df K mg x st) (S : FnScope N ps (defScope st)) (len : ∀ vs H Q E, sp vs H Q E → vs.length = ps.length)
    (hbd : ∀ (kV doc pm : Value) (an : Option Addr) (cdv ct : Value) (us : List Value), us.length = ps.length → bindArgs (PySem.W.fnOf x x (defArgs st) (defBody st) (defScope st) .none kV doc pm an cdv ct) ⟨us, []⟩ = pure (ps.zip us))
    (hbody : ∀ (f : Addr) (cdv : Value) (A : Around) (outer : List Env) (s : Shared) (H : Hp) (vs : List V) (Q : VK) (E : XK), Room k (A.deeper (envOfC x (defScope st) s.heap.objs.size f cdv)) → A.guards = some [] → sp vs H Q E →
      ∃ t, PSs (cxOf CX0 P w K mg base N x (defScope st) f cdv A outer s H E).nox (defBody st) t ∧ t { nx := fun _ H' => Q .non H', rt := Q } (start N vs) H) : CalG P w K mg base (k + 1) x ps sp := by
  obtain ⟨f, fd, F, hm⟩ := F.ex
  refine ⟨f, fd, fnG_of F S len fun cdv A outer s H vs Q E hr hg h => ?_, hm, F.kp, F.bindsN hbd⟩
  obtain ⟨t, h1, h2⟩ := hbody f cdv A outer s H vs Q E hr hg h
  exact ⟨t, PSs.nox h1, h2⟩
/-! ### repr of data -/
def rRepr (K : PySem.W.Frag) : List V → Hp → VK → Prop := fun xs H Q => ∃ x d, xs = [x] ∧ Dp K H x d ∧ (∃ a, x = .ref a) ∧ d.showable = true ∧ d.hasDict = false ∧ d.depth ≤ 8 ∧ d.shown.length ≤ sizeLine ∧ Q (.str d.shown) H
theorem call_reprD {X : Cx} {K : PySem.W.Frag} (hu : X.A.units + 64 < cLine) (hgd : X.A.guards = some []) (hK : X.K = K := by rfl) : CallR X (.builtin "repr") (rRepr K) := by
  subst hK
  intro pins s σ H xs us Q I r h
  obtain ⟨x, d, rfl, hd, ⟨a, rfl⟩, h1, h2, h3, h4, q⟩ := h
  obtain ⟨u, rfl, ru⟩ := vals1 r
  cases ru
  obtain ⟨as, hr⟩ := Dp.reads I d _ _ hd rfl
  refine repr_of_reads' hr h1 (fun z => by rw [h2] at z; cases z) hgd (by omega) (fun b o e => e) (fun h' u tk hk => ?_) h4
  exact ⟨.str d.shown, H, I.kept hk, ⟨u, rfl⟩, q⟩
/-! ### str(x): a text, or an instance with its own __str__ -/
def rStrO (K : PySem.W.Frag) (l : List (Addr × Sp)) : List V → Hp → VK → Prop := fun xs H Q => (∃ a, xs = [.str a] ∧ Q (.str a) H) ∨ ∃ a C dx vs g sp, xs = [.ref a] ∧ H a = some (.ins C dx vs) ∧ PySem.W.findIn K (.ref C) "__str__" = some (some (.ref g)) ∧ PySem.W.isFn K (.ref g) = true ∧ (g, sp) ∈ l ∧
  sp [.ref a] H (fun z H' => ∃ t, z = .str t ∧ Q (.str t) H') E0
theorem call_strO {X : Cx} {K : PySem.W.Frag} {n : Nat} {l : List (Addr × Sp)} (F : ∀ p ∈ l, FnR X.prog X.w X.K X.mg X.base CX0 n p.1 p.2) (hr : Room (n + 2) X.A) (hK : X.K = K := by rfl) : CallR X (.type "str") (rStrO K l) := by
  subst hK
  intro pins s σ H xs us Q I r h
  rcases h with ⟨a, rfl, q⟩ | ⟨a, C, dx, vs, g, sp, rfl, ha, hs, hf, hl, q⟩
  · obtain ⟨u, rfl, t, rfl⟩ := vals1 r
    exact PySem.P.str_of_str ⟨.str a, H, I, ⟨t, rfl⟩, q⟩
  · obtain ⟨u, rfl, ru⟩ := vals1 r
    cases ru
    obtain ⟨od, J⟩ := ins_inst I ha
    refine PySem.W.kso_call (show X.A.units + 1 + 1 < cLine by have := hr.un; omega) I.kIn J hs hf ?_
    refine wpAny_call (codeAny_mono (F _ hl X.A.in1.in1 X.stack s H [.ref a] [.ref a] _ E0 hr.in1.in1 I.env0.in1.in1 (.cons rfl .nil) q) fun res s' hq => ?_)
    cases res with
    | error er => exact hq.elim
    | ok fl =>
      cases fl with
      | ret u =>
        obtain ⟨z', H', I', rz, t, rfl, qz⟩ := I.after hq
        obtain ⟨tk, rfl⟩ := rz
        exact ⟨.str t, H', I', ⟨tk, rfl⟩, qz⟩
      | next => exact hq.elim
      | brk => exact hq.elim
      | cont => exact hq.elim
/-! ### a law's end -/
section
variable {P : Program} {w : World} {K : PySem.W.Frag} {mg mb : Str → Option Value} {CX : CXT} {k : Nat} {fa a : Addr} {fd : FuncData} {x : Str} {sp : Sp} {s₁ : Shared} {vs : List Value} {ns : List Int}
/-- H tracks at most the script -/
theorem law_runG {H : Hp} (KX : K.In s₁.heap) (hns : s₁.heap.Ns mainGlobals mg) (hb : s₁.heap.Ns builtinsNs mb) (hbb : ∀ x : Str, x ≠ "__name__" → mb x = bootBuiltins x) (hlim : s₁.heap.NoLimit) (hg : s₁.gens = #[])
    (ha : s₁.heap.get? a = some { cls := .type "list", data := .seq vs.toArray }) (hr : Room k callerA)
    (F : ∀ base : Heap, K.In base → base.Ns mainGlobals mg → FnG P w K mg base CX k fa fd [x] sp) (hbind : ∀ (s : Shared) (u : Value), BindsTo s fd ⟨[u], []⟩ [(x, u)])
    (hO : Only H) (hok : HOk P w H s₁.heap) (hA : ∀ b, H b ≠ none → b = a) (hK : H a ≠ none → K.lookup a = none) (hsp : sp [.ref a] H (fun v _ => v = .bl true) fun _ _ _ => False)
    (hCX : ∀ e s', CX [] H s₁ (fun _ _ _ => False) e s' → False) :
    codeAny (model P w) callerA (.call (.ref fa) ⟨[.ref a], []⟩) (fun r s' => r = .ok (.ret (.bool true)) ∧ OldK s₁.heap s'.heap ∧ s'.os = s₁.os ∧ AllBare s'.gens) s₁ := by
  have noD : ∀ {b : Addr} {o : Obj} {es : Array DictEntry} {ep : Nat}, s₁.heap.get? b = some o → o.data = .dict es ep → H b = none := fun {b o es ep} e d => by
    by_cases z : H b = none
    · exact z
    · have e' := hA b z
      subst e'
      rw [ha] at e
      cases e
      cases (show Data.seq vs.toArray _ = Data.dict es ep from d)
  have ns1 : ∀ {b : Addr} {m : Str → Option Value}, s₁.heap.Ns b m → (hidT s₁.heap H).Ns b m := fun {b m} ⟨o, es, ep, e, d, r⟩ => ⟨o, es, ep, hidT_get e (noD e d), d, r⟩
  have KB : K.In (hidT s₁.heap H) := fun b o e => hidT_get (KX b o e) (by
    by_cases z : H b = none
    · exact z
    · have e' := hA b z
      subst e'
      rw [hK z] at e
      cases e)
  have lim1 : (hidT s₁.heap H).NoLimit := by
    obtain ⟨mc, h1, h2⟩ := hlim
    exact ⟨mc, ns1 h1, h2⟩
  have e0 : Env0 P w K mg (hidT s₁.heap H) callerA [] s₁ H := ⟨rfl, ⟨KB, ns1 hns, ⟨mb, ns1 hb, hbb⟩, lim1⟩, fun b o e => of_hidT e, Nat.le_of_eq (hidT_size _ _), trivial, fun b z => (List.not_mem_nil z).elim, hok, .of_eq hg⟩
  refine codeAny_mono ((F _ KB (ns1 hns)).run callerA [] s₁ H ⟨[.ref a], []⟩ [.ref a] [.ref a] _ _ hr rfl e0 (hbind s₁ (.ref a)) (.cons rfl .nil) hsp) fun r s' h => ?_
  cases r with
  | error e => exact (hCX e s' h).elim
  | ok fl =>
    cases fl with
    | next => exact h.elim
    | brk => exact h.elim
    | cont => exact h.elim
    | ret u =>
      obtain ⟨v, H', os, bare, un, hok', r', q⟩ := h
      obtain rfl : v = .bl true := q
      obtain rfl : u = Value.bool true := r'
      refine ⟨rfl, OldK.of_keep fun b o e => ?_, os, bare⟩
      rcases hO b with z | ⟨ob, xs, z⟩
      · exact un.keep b o e z (fun y => (List.not_mem_nil y).elim) (by simp)
      · obtain ⟨e1, _⟩ := hok b _ z
        obtain ⟨e2, _⟩ := hok' b _ (un.frzs b ob _ z)
        rw [e] at e1
        cases e1
        exact e2
theorem law_callG (KX : K.In s₁.heap) (hns : s₁.heap.Ns mainGlobals mg) (hb : s₁.heap.Ns builtinsNs mb) (hbb : ∀ x : Str, x ≠ "__name__" → mb x = bootBuiltins x) (hlim : s₁.heap.NoLimit) (hg : s₁.gens = #[])
    (ha : s₁.heap.get? a = some { cls := .type "list", data := .seq vs.toArray }) (hi : IntsAre vs ns) (hl : ns.length ≤ sizeLine) (hr : Room k callerA)
    (F : ∀ base : Heap, K.In base → base.Ns mainGlobals mg → FnG P w K mg base CX k fa fd [x] sp) (hbind : ∀ (s : Shared) (u : Value), BindsTo s fd ⟨[u], []⟩ [(x, u)])
    (hsp : ∀ H : Hp, Only H → SqL K H a (ns.map V.int) → sp [.ref a] H (fun v _ => v = .bl true) fun _ _ _ => False)
    (hCX : ∀ H e s', CX [] H s₁ (fun _ _ _ => False) e s' → False) :
    codeAny (model P w) callerA (.call (.ref fa) ⟨[.ref a], []⟩) (fun r s' => r = .ok (.ret (.bool true)) ∧ OldK s₁.heap s'.heap ∧ s'.os = s₁.os ∧ AllBare s'.gens) s₁ := by
  have rv := vals_ints hi
  by_cases hk : K.lookup a = none
  · let H : Hp := fun b => if b = a then some (.frz { cls := .type "list", data := .seq vs.toArray } (.lst (ns.map V.int))) else none
    have h1 : H a = some (.frz { cls := .type "list", data := .seq vs.toArray } (.lst (ns.map V.int))) := if_pos rfl
    have h2 : ∀ b, b ≠ a → H b = none := fun b n => if_neg n
    have hO : Only H := fun b => by
      by_cases e : b = a
      · subst e; exact .inr ⟨_, _, h1⟩
      · exact .inl (h2 b e)
    refine law_runG KX hns hb hbb hlim hg ha hr F hbind hO (fun b u z => ?_) (fun b z => ?_) (fun _ => hk) (hsp H hO (.inl (.inr ⟨_, h1⟩))) fun e s' => hCX H e s'
    · by_cases e : b = a
      · subst e
        rw [h1] at z
        cases z
        exact ⟨ha, by rw [List.length_map]; exact hl, vs, _, rv, ha⟩
      · rw [h2 b e] at z
        cases z
    · by_cases e : b = a
      · exact e
      · exact absurd (h2 b e) z
  · obtain ⟨o, ho⟩ := Option.ne_none_iff_exists'.mp hk
    have e := KX a o ho
    rw [ha] at e
    cases e
    exact law_runG (H := fun _ => none) KX hns hb hbb hlim hg ha hr F hbind (fun _ => .inl rfl) (fun b u z => nomatch z) (fun b z => absurd rfl z) (fun z => absurd rfl z)
      (hsp _ (fun _ => .inl rfl) (.inr ⟨_, vs.toArray, _, ho, rfl, rfl, rfl, by rw [List.size_toArray, hi.length]; exact hl, by simpa using rv⟩)) fun e s' => hCX _ e s'
end
theorem walk_ofG {l : PySem.W.OpenLaw} {n k : Nat} {q : Program} {loose : List Str} {XP : (Str → Option Value) → Heap → Prop} {YP : World → Heap → Prop} {d : DefRec} {CX : CXT} {x : Str}
    (hn : l.most = some n) (hn2 : n ≤ sizeLine) (hdf : d.params.defaults = []) (hr : Room k callerA)
    (F : ∀ (w : World) (mg : Str → Option Value) (fa : Addr) (h : Heap), YP w h → h.Ns mainGlobals mg → mg d.name = some (.ref fa) →
      ∃ (K : PySem.W.Frag) (fd : FuncData) (sp : Sp), K.In h ∧ (∀ (s : Shared) (u : Value), BindsTo s fd ⟨[u], []⟩ [(x, u)]) ∧
        (∀ (H : Hp) (a : Addr) (ns : List Int), ns.length ≤ n → Only H → SqL K H a (ns.map V.int) → sp [.ref a] H (fun v _ => v = .bl true) fun _ _ _ => False) ∧
        ∀ base : Heap, K.In base → base.Ns mainGlobals mg → FnG l.prog w K mg base CX k fa fd [x] sp)
    (hCX : ∀ (H : Hp) (s : Shared) (e : Value) (s' : Shared), CX [] H s (fun _ _ _ => False) e s' → False) :
    PySem.W.WalkO q loose XP YP l.row.toRowW d [] (fun f vs => PySem.call f vs) := by
  refine Att.attach_call hn hdf fun w s₀ s₁ mg mb fa o pm cd doc a vs ns G Y ho hd hcd hmg hobj hints hlen hg => ?_
  obtain ⟨K, fd, sp, KX, hb, hsp, hF⟩ := F w mg fa _ Y G.T.g hmg
  exact law_callG KX G.T.g G.T.b G.T.builtins G.T.nolimit hg hobj hints (Nat.le_trans hlen hn2) hr hF hb (fun H hO hS => hsp H a ns hlen hO hS) fun H e s' => hCX H s₁ e s'
end My
namespace My
open PySem PySem.Spec PyProof.Rows L2 PySem.W PySem.HandSPX PySem.Calls PySem.Builtin PySem.Builtin.ObjectAttr
/-! ### errors of the program: class E(..): def __init__(self, f ..): super().__init__(".."); self.f = f .. -/
structure EBase (B newId initId : String) (tl : List Value) : Prop where
  F : ExcBaseFacts B newId initId tl
  K : KxsFacts B initId
  S : StoreFacts B tl "object.__setattr__" "object"
theorem eb_ValueError : EBase "ValueError" "ValueError.__new__" "ValueError.__init__" [.type "ValueError", .type "Exception", .type "BaseException", .type "object"] := ⟨F.excBase_ValueError, kxs_ValueError, F.store_ValueError⟩
theorem eb_LookupError : EBase "LookupError" "LookupError.__new__" "LookupError.__init__" [.type "LookupError", .type "Exception", .type "BaseException", .type "object"] := ⟨F.excBase_LookupError, kxs_LookupError, F.store_LookupError⟩
theorem eb_ArithmeticError : EBase "ArithmeticError" "ArithmeticError.__new__" "ArithmeticError.__init__" [.type "ArithmeticError", .type "Exception", .type "BaseException", .type "object"] := ⟨F.excBase_ArithmeticError, kxs_ArithmeticError, F.store_ArithmeticError⟩
/-- what the written part says of the class at C, whose fields are fs -/
structure ErrK (K : Frag) (C : Addr) (B newId initId : String) (tl : List Value) (fI : Addr) (fs : List Str) : Prop where
  eb : EBase B newId initId tl
  new : excInitIn K C tl newId = true
  over : excOver K C tl = true
  hd : hasDictIn K C = true
  iC : findIn K (.ref C) "__init__" = some (some (.ref fI))
  fn : isFn K (.ref fI) = true
  sup : ks_superIn K C C "__init__" = some (some (.builtin initId))
  subB : subIn K (.ref C) (.type B) = some true
  ex : subIn K (.ref C) (.type "BaseException") = some true
  ty : typeIn K (.ref C) = some (.type "type")
  kp : keepIn K (.ref C) = true
  sa : findIn K (.ref C) "__setattr__" = some (some (.builtin "object.__setattr__"))
  ga : findIn K (.ref C) "__getattribute__" = some (some (.builtin "BaseException.__getattribute__"))
  gg : findIn K (.ref C) "__getattr__" = some none
  no : ∀ f ∈ fs, takerIn K C f = some none ∧ findIn K (.ref C) f = some none
  st : nsIn K cStatics "thirdparty.any" = some none
  mC : mroIn K C (.ref C) = some true
/-- its __init__'s text -/
def supS (m : Str) (j : Nat) (p0 p1 p2 p3 p4 p5 : Pos) : Stmt := .Expr (.Call (.Attribute (.Call (.Name "super" p0) [] [] p1) "__init__" p2) [.Constant (.str m) j p3] [] p4) p5
def asgS (f : Str) (q1 q2 q3 q4 : Pos) : Stmt := .Assign [.Attribute (.Name "self" q1) f q2] (.Name f q3) q4
structure ErrSc (fs : List Str) (sc : Scope) : Prop where
  kind : sc.kind = .function
  gen : sc.isGenerator = false
  co : sc.isCoroutine = false
  sup : sc.names.lookup ("super" : Str) = some NameKind.globalImplicit
  cls : sc.names.lookup ("__class__" : Str) = some NameKind.free
  self : sc.names.lookup ("self" : Str) = some NameKind.local
  loc : ∀ f ∈ fs, sc.names.lookup f = some NameKind.local
  cell : ∀ x ∈ sc.names, x.2 ≠ NameKind.cell
  dbg : ∀ f ∈ fs, (f == ("__debug__" : Str)) = false
/-- the def at fI: its closure holds the class, its code the file -/
structure ErrFn (K : Frag) (C fI : Addr) (file : Str) (params : Arguments) (body : List Stmt) (sc : Scope) (cc cda : Addr) (qual : Str) : Prop where
  at_ : ∃ (oc : Value) (od : Option Addr) (kV doc pm : Value) (an : Option Addr) (ct : Value) (osl : Array (Option Value)), K.lookup fI = some ⟨oc, od, .func (ksFn "__init__" qual params body sc .none kV doc pm an (.ref cda) ct cc), osl⟩
  rec_ : codeIn K (.ref cda) qual = true
  code : ∃ (ccl : Value) (cdd : Option Addr) (vs : Array Value) (ccs : Array (Option Value)) (tf : Tok), K.lookup cda = some ⟨ccl, cdd, .fields vs, ccs⟩ ∧ vs[2]? = some (.str file tf)
  cell : ∃ (cl : Value) (cld : Option Addr) (csl : Array (Option Value)), K.lookup cc = some ⟨cl, cld, .cell (some (.ref C)), csl⟩
section
variable {prog : Program} {w : World} {A : Around} {E : Value → Shared → Prop} {K : Frag} {C fI cc cda : Addr} {B newId initId : String} {tl : List Value} {fs : List Str} {file qual : Str} {params : Arguments} {body : List Stmt} {sc : Scope}
variable {h : Heap} {g : Array GenState} {d : Drawn} {t : Nat} {os : OsState}
/-- the wrapper of the base's __init__, called -/
theorem call_bwB (T : ErrK K C B newId initId tl fI fs) (X : K.In h) {u e t0 : Addr} {rest : List Value} {Q : Value → Shared → Prop} (he : h.get? e = some (excO C t0)) (hu : h.get? u = some (kxs_mw initId e)) (hrest : rest.length ≤ sizeLine)
    (hq : ∀ h' t1, (∀ b o, b ≠ e → h.get? b = some o → h'.get? b = some o) → h'.get? e = some (excO C t1) → Q .none ⟨h', g, d, t, os⟩) :
    wpAny (model prog w) A (call (.ref u) rest) Q E ⟨h, g, d, t, os⟩ := by
  obtain ⟨nm, N, q, bs, bm, hdct, sn, sub, ab, col, dd, k0, k1, k2, k3, k5, hC, hT⟩ := excInit_of X T.new
  refine wpAny_call (codeAny_of_tree ?_)
  show wpAny _ A.in1 (callAny (.ref u) ⟨rest, []⟩) _ _ _
  simp only [callAny]
  refine wpAny_bind (wpAny_load hu ?_)
  simp only [kxs_mw, show (Value.type "method-wrapper" == Value.type "method" || Value.type "method-wrapper" == Value.type "builtin_function_or_method" || Value.type "method-wrapper" == Value.type "method-wrapper") = true by decide, if_true]
  refine KFB.if_so (by decide) ?_
  refine wpAny_bind (check_bound_init T.eb.F.toExcCallFacts hC he rfl ?_)
  refine wpAny_bind (wpAny_pure (wpAny_pure ?_))
  refine ⟨plainId_quiet T.eb.F.init.plain _, codeAny_builtin T.eb.F.initEntry ?_⟩
  exact exc_init_tree (cls := .ref C) (t0 := t0) (dv := none) (c2 := .none) (c3 := .none) (b4 := .bool false) he hrest fun h' k e' _ => hq h' _ k e'
theorem eval_sup {env : Env} {mt : Str} {j : Nat} {p0 p1 p2 p3 p4 : Pos} (hl : (p2.endLine == p4.line) = true) :
    eval (.Call (.Attribute (.Call (.Name "super" p0) [] [] p1) "__init__" p2) [.Constant (.str mt) j p3] [] p4) env = (do
      let ov ← attributeBase (.Call (.Name "super" p0) [] [] p1) "__init__" env (eval (.Call (.Name "super" p0) [] [] p1) env)
      standAt p2.atName
      let (f, first) ← holding [ov] (getMethod ov "__init__" (do return (← importBound (.Call (.Name "super" p0) [] [] p1) env).getD true))
      callWith p4 f first (backTo p4 (starEach [.Constant (.str mt) j p3] env)) []) := by
  rw [arm_eval_Call]
  have e : ∀ ov, methodCall (.Call (.Name "super" p0) [] [] p1) "__init__" p2 p4 env ov ([Expr.Constant (.str mt) j p3].length + ([] : List Keyword).length) (backTo p4 (starEach [.Constant (.str mt) j p3] env)) (backToKw p4 (keywordEach [] env)) = (do
      let (f, first) ← holding [ov] (getMethod ov "__init__" (do return (← importBound (.Call (.Name "super" p0) [] [] p1) env).getD true))
      callWith p4 f first (backTo p4 (starEach [.Constant (.str mt) j p3] env)) []) := fun ov => by
    unfold methodCall methodCallPos
    have few : methodCallForm ([Expr.Constant (.str mt) j p3].length + ([] : List Keyword).length) (backTo p4 (starEach [.Constant (.str mt) j p3] env)) (backToKw p4 (keywordEach [] env)) = true := rfl
    rw [few, hl]
    simp only [Bool.not_true, Bool.or_true, if_true, pure_bind]
    rfl
  exact congrArg (fun k => attributeBase (.Call (.Name "super" p0) [] [] p1) "__init__" env (eval (.Call (.Name "super" p0) [] [] p1) env) >>= k) (funext fun ov => congrArg (fun k => standAt p2.atName >>= fun _ => k) (e ov))
/-- super().__init__("..") -/
theorem st_super (T : ErrK K C B newId initId tl fI fs) (Fn : ErrFn K C fI file params body sc cc cda qual) (S : ErrSc fs sc) (X : K.In h) {mg mb : Str → Option Value} (hG : h.Ns mainGlobals mg) (hmg : mg "super" = none) (hB : h.Ns builtinsNs mb) (hmb : mb "super" = some (.type "super"))
    (hfile : ((prog.main.file : Str) == file) = true) (htop : (prog.main.scope.names.lookup ("super" : Str)).isSome = false) {ar : Arg} (hp : (params.posonlyargs ++ params.args).head? = some ar) (har : ar.arg = "self")
    {L x t0 : Addr} {m : Str → Option Value} (hns : h.Ns L m) (hself : m "self" = some (.ref x)) (hx : h.get? x = some (excO C t0)) {mt : Str} {j : Nat} {p0 p1 p2 p3 p4 p5 : Pos} (hl : (p2.endLine == p4.line) = true) {Q : Flow → Shared → Prop}
    (hq : ∀ h' t' t1, (∀ b o, b ≠ x → h.get? b = some o → h'.get? b = some o) → h'.get? x = some (excO C t1) → Q .next ⟨h', g, d, t', os⟩) :
    _root_.PySem.wpAt (model prog w) A (.func body (ksEnv qual sc L fI (.ref cda) cc)) (exec (supS mt j p0 p1 p2 p3 p4 p5) (ksEnv qual sc L fI (.ref cda) cc)) Q E ⟨h, g, d, t, os⟩ := by
  obtain ⟨oc, od, kV, doc, pm, an, ct, osl, hf⟩ := Fn.at_
  obtain ⟨ccl, cdd, vs, ccs, tf, hcode, hvs⟩ := Fn.code
  obtain ⟨cl, cld, csl, hcell⟩ := Fn.cell
  obtain ⟨cdC, hcC, _⟩ := any_some T.over
  obtain ⟨oD, hD1, hD2⟩ : ∃ oD, h.get? C = some oD ∧ oD.data = .cls cdC := by
    unfold clsIn at hcC
    split at hcC
    · rename_i c d cd' sl ho
      cases hcC
      exact ⟨_, X _ _ ho, rfl⟩
    · cases hcC
  have I : InstAt h x (excO C t0) C none := ⟨hx, rfl, rfl, trivial⟩
  have hxC := ks_ne X I hcC
  refine ks_wpAt_Expr_any (ks_wpAt_MethodCall (name := "__init__") (he := eval_sup hl) ?_) (by
    unfold interactive
    rw [show (ksEnv qual sc L fI (.ref cda) cc).scope.kind = .function from S.kind]
    rfl)
  refine ks_wpAt_super_base (env := ksEnv qual sc L fI (.ref cda) cc) S.sup S.cls rfl rfl (X _ _ hf) rfl hp rfl (X _ _ hcode) rfl hvs hfile htop ?_
  refine ks_loadName_global S.kind S.sup (loadGlobal_builtin (env := ksEnv qual sc L fI (.ref cda) cc) hG hmg hB hmb ⟨rfl, ?_⟩)
  refine wpAny_loadName_free S.kind S.cls rfl ⟨_, X _ _ hcell, rfl⟩ ?_
  rw [har]
  refine wpAny_loadName_local S.kind S.self hns hself ?_
  refine ks_wpAny_isType_cls hD1 hD2 ⟨rfl, ?_⟩
  refine ks_wpAny_call_super hD1 hD2 hx rfl (fun c e => by cases e) (looks_mroIn X T.mC) (fun h1 e1 k1 => ?_)
  have X1 : K.In h1 := X.keeps k1
  have hsup := T.sup
  unfold ks_superIn at hsup
  rw [hcC] at hsup
  have I1 : InstAt h1 x (excO C t0) C none := ⟨k1 _ _ hx, rfl, rfl, trivial⟩
  refine kxs_getMethod T.eb.K e1 (looks_opaque X1 T.st) (l₀ := cdC.mro) (fun A Q E s k q => wpAny_bind ((looks_clsIn X1 hcC) A _ E s k (wpAny_pure q))) rfl X1 hsup (I1.type.andThen (looks_subIn X1 T.subB)) hxC rfl ?_
  refine kxs_callWith (i := initId) (x := x) rfl ?_
  have k2 : ∀ b o, h1.get? b = some o → (h1.push (kxs_mw initId x)).get? b = some o := fun b o e => Heap.get?_push_of_some _ e
  have hu : (h1.push (kxs_mw initId x)).get? h1.objs.size = some (kxs_mw initId x) := Heap.get?_push_at rfl rfl
  refine evalArgs_plain (spliced_cons (Calls.Constant_str (pos := p3) (k := j) (spliced_nil ⟨hu, ?_⟩)))
  refine call_bwB T (X1.keeps k2) (k2 _ _ (k1 _ _ hx)) hu (by rw [sizeLine_eq]; show 1 ≤ 16777216; decide) fun h' t1 k3 e3 => ?_
  exact hq h' _ t1 (fun b o hb e => k3 b o hb (k2 _ _ (k1 _ _ e))) e3
/-- self.f = v: no dict yet, then a dict -/
theorem set_newB (T : ErrK K C B newId initId tl fI fs) (X : K.In h) {x : Addr} {fv : Array Value} {name : Str} {v : Value} {Q : Unit → Shared → Prop} (hx : h.get? x = some { cls := .ref C, data := .fields fv }) (ht : takerIn K C name = some none)
    (hq : ∀ h' tk' dx, (∀ b o, b ≠ x → h.get? b = some o → h'.get? b = some o) → h.objs.size ≤ dx → dx ≠ x → h'.get? x = some { cls := .ref C, dict := some dx, data := .fields fv } →
      h'.Ns1 dx (fun y => if y = name then some v else none) → Q () ⟨h', g, d, tk', os⟩) :
    wpAny (model prog w) A (setAttr (.ref x) name v) Q E ⟨h, g, d, t, os⟩ := by
  obtain ⟨cd, hc, hd'⟩ := any_some T.hd
  have hxs : x ≠ h.objs.size := Nat.ne_of_lt (Heap.lt_size hx)
  refine set_plain (od := none) X ⟨hx, rfl, rfl, trivial⟩ T.sa (osa_openX (od := none) T.eb.S X ⟨hx, rfl, rfl, trivial⟩ T.over ht fun b => ?_)
  have hcls : Looks (model prog w) h (classData C) cd := looks_clsIn X hc
  obtain ⟨nm, bs, mro, ns, qn, hd, sn, sb, ab, col, del⟩ := cd
  dsimp only at hd'
  subst hd'
  show wpAny _ _ (storeInOwnDict (.ref x) (.ref C) (.str name _) name v b) _ _ _
  unfold storeInOwnDict ownDictForStores
  repeat (first | with_reducible refine HandSPX.store_in_new ?_ ?_ | with_reducible refine wpAny_loadPart_at hx ?_ | with_reducible refine hcls.at ?_ | wp_step)
  · exact ⟨_, #[], _, (Heap.get?_update_ne _ _ _ _ hxs.symm).trans (Heap.get?_push_at rfl rfl), rfl, fun e he => absurd he (by simp), fun _ => rfl⟩
  · intro h' tk' hn' hs
    have hx₁ : (h.push { cls := .type "dict", data := .dict #[] }).get? x = some { cls := .ref C, data := .fields fv } := Heap.get?_push_of_some _ hx
    refine hq h' tk' h.objs.size (fun b o hb ho => ?_) (Nat.le_refl _) hxs.symm ?_ hn'
    · exact (hs.2 b (Nat.ne_of_lt (Heap.lt_size ho))).trans ((Heap.get?_update_ne _ _ _ _ hb).trans (Heap.get?_push_of_some _ ho))
    · exact (hs.2 x hxs).trans (Heap.get?_update_self _ hx₁ rfl)
theorem set_oldB (T : ErrK K C B newId initId tl fI fs) (X : K.In h) {x dx : Addr} {fv : Array Value} {name : Str} {v : Value} {m0 : Str → Option Value} {nl : List Str} {Q : Unit → Shared → Prop}
    (hx : h.get? x = some { cls := .ref C, dict := some dx, data := .fields fv }) (hns : h.Ns1 dx m0) (hw : Within m0 nl) (hz : nl.length ≤ 1000) (ht : takerIn K C name = some none)
    (hq : ∀ h' tk', (∀ b o, b ≠ dx → h.get? b = some o → h'.get? b = some o) → h'.Ns1 dx (fun y => if y = name then some v else m0 y) → Q () ⟨h', g, d, tk', os⟩) :
    wpAny (model prog w) A (setAttr (.ref x) name v) Q E ⟨h, g, d, t, os⟩ := by
  obtain ⟨cd, hc, hd'⟩ := any_some T.hd
  obtain ⟨oD, esD, epD, hoD, hdD, _⟩ := hns.count hw
  refine set_plain (od := some oD) X ⟨hx, rfl, rfl, hoD⟩ T.sa (osa_openX (od := some oD) T.eb.S X ⟨hx, rfl, rfl, hoD⟩ T.over ht fun b => ?_)
  have hcls : Looks (model prog w) h (classData C) cd := looks_clsIn X hc
  obtain ⟨nm, bs, mro, ns, qn, hd, sn, sb, ab, col, del⟩ := cd
  dsimp only at hd'
  subst hd'
  show wpAny _ _ (storeInOwnDict (.ref x) (.ref C) (.str name _) name v b) _ _ _
  unfold storeInOwnDict ownDictForStores
  repeat (first | with_reducible refine ESX.store_in_old hns hw hz ?_ | with_reducible refine wpAny_loadPart_at hx ?_ | with_reducible refine hcls.at ?_ | wp_step)
  intro h' tk' hn' hs
  exact hq h' tk' (fun b o hb ho => (hs.2 b hb).trans ho) hn'
theorem ld_ks {env : Env} {m : Str → Option Value} {x : Str} {pos : Pos} {v : Value} {Q : Value → Shared → Prop} {s : Shared} (hn : s.heap.Ns env.locals m) (hv : m x = some v) (hq : Q v s)
    (hk : env.scope.kind = .function) (hl : env.kindOf x = some .local) (hd : (x == ("__debug__" : Str)) = false) :
    wpAny (model prog w) A (eval (.Name x pos) env) Q E s := wpAny_Name (wpAny_loadName_local hk hl hn hv hq) hd
theorem st_asg_new (T : ErrK K C B newId initId tl fI fs) (S : ErrSc fs sc) (X : K.In h) {L x t1 : Addr} {m : Str → Option Value} {f : Str} {v : Value} {cdv : Value} (hf : f ∈ fs) (hns : h.Ns L m) (hself : m "self" = some (.ref x)) (hv : m f = some v) (hx : h.get? x = some (excO C t1)) {q1 q2 q3 q4 : Pos} {Q : Flow → Shared → Prop}
    (hq : ∀ h' t' dx, (∀ b o, b ≠ x → h.get? b = some o → h'.get? b = some o) → h.objs.size ≤ dx → dx ≠ x → h'.get? x = some { cls := .ref C, dict := some dx, data := .fields #[.ref t1, .none, .none, .none, .bool false, .none] } →
      h'.Ns1 dx (fun y => if y = f then some v else none) → Q .next ⟨h', g, d, t', os⟩) :
    _root_.PySem.wpAt (model prog w) A (.func body (ksEnv qual sc L fI cdv cc)) (exec (asgS f q1 q2 q3 q4) (ksEnv qual sc L fI cdv cc)) Q E ⟨h, g, d, t, os⟩ := by
  refine ks_wpAt_Assign_Attr (wpAt_of_wpAny (ld_ks (m := m) (v := v) hns hv (ld_ks (m := m) (v := .ref x) hns hself ?_ S.kind S.self (by decide)) S.kind (S.loc f hf) (S.dbg f hf)))
  exact set_newB T X hx (T.no f hf).1 hq
theorem st_asg_old (T : ErrK K C B newId initId tl fI fs) (S : ErrSc fs sc) (X : K.In h) {L x dx t1 : Addr} {m m0 : Str → Option Value} {nl : List Str} {f : Str} {v : Value} {cdv : Value} (hf : f ∈ fs) (hns : h.Ns L m) (hself : m "self" = some (.ref x)) (hv : m f = some v)
    (hx : h.get? x = some { cls := .ref C, dict := some dx, data := .fields #[.ref t1, .none, .none, .none, .bool false, .none] }) (hd : h.Ns1 dx m0) (hw : Within m0 nl) (hz : nl.length ≤ 1000) {q1 q2 q3 q4 : Pos} {Q : Flow → Shared → Prop}
    (hq : ∀ h' t', (∀ b o, b ≠ dx → h.get? b = some o → h'.get? b = some o) → h'.Ns1 dx (fun y => if y = f then some v else m0 y) → Q .next ⟨h', g, d, t', os⟩) :
    _root_.PySem.wpAt (model prog w) A (.func body (ksEnv qual sc L fI cdv cc)) (exec (asgS f q1 q2 q3 q4) (ksEnv qual sc L fI cdv cc)) Q E ⟨h, g, d, t, os⟩ := by
  refine ks_wpAt_Assign_Attr (wpAt_of_wpAny (ld_ks (m := m) (v := v) hns hv (ld_ks (m := m) (v := .ref x) hns hself ?_ S.kind S.self (by decide)) S.kind (S.loc f hf) (S.dbg f hf)))
  exact set_oldB T X hx hd hw hz (T.no f hf).1 hq
/-- what is left of a fresh error at x, its __init__ having run -/
structure ErrEnd (h h' : Heap) (x C : Addr) (od : Option Addr) (fs : List (Str × Value)) : Prop where
  keep : ∀ b o, b ≠ x → h.get? b = some o → h'.get? b = some o
  obj : ∃ t1 : Addr, h'.get? x = some { cls := .ref C, dict := od, data := .fields #[.ref t1, .none, .none, .none, .bool false, .none] }
  dict : match od with
    | none => fs = []
    | some dx => fs ≠ [] ∧ h.objs.size ≤ dx ∧ dx ≠ x ∧ h'.Ns1 dx (fun y => fs.lookup y)
abbrev slf (x : Addr) : Str × Value := (("self" : Str), Value.ref x)
/-- the text of __init__ -/
def InitOk : List Str → List Stmt → Prop
  | [], [s] => ∃ m j p0 p1 p2 p3 p4 p5, s = supS m j p0 p1 p2 p3 p4 p5 ∧ (p2.endLine == p4.line) = true
  | [f], [s, a] => (∃ m j p0 p1 p2 p3 p4 p5, s = supS m j p0 p1 p2 p3 p4 p5 ∧ (p2.endLine == p4.line) = true) ∧ ∃ q1 q2 q3 q4, a = asgS f q1 q2 q3 q4
  | [f, f2], [s, a, b] => (∃ m j p0 p1 p2 p3 p4 p5, s = supS m j p0 p1 p2 p3 p4 p5 ∧ (p2.endLine == p4.line) = true) ∧ (∃ q1 q2 q3 q4, a = asgS f q1 q2 q3 q4) ∧ (∃ q1 q2 q3 q4, b = asgS f2 q1 q2 q3 q4) ∧ f ≠ f2
  | _, _ => False
theorem InitOk.cases : ∀ {fs : List Str} {body : List Stmt}, InitOk fs body → ∃ m j p0 p1 p2 p3 p4 p5, (p2.endLine == p4.line) = true ∧ ((fs = [] ∧ body = [supS m j p0 p1 p2 p3 p4 p5]) ∨ (∃ f q1 q2 q3 q4, fs = [f] ∧ body = [supS m j p0 p1 p2 p3 p4 p5, asgS f q1 q2 q3 q4]) ∨
    ∃ f f2 q1 q2 q3 q4 r1 r2 r3 r4, fs = [f, f2] ∧ body = [supS m j p0 p1 p2 p3 p4 p5, asgS f q1 q2 q3 q4, asgS f2 r1 r2 r3 r4] ∧ f ≠ f2)
  | [], [s], ⟨m, j, p0, p1, p2, p3, p4, p5, e, h⟩ => ⟨m, j, p0, p1, p2, p3, p4, p5, h, .inl ⟨rfl, by rw [e]⟩⟩
  | [f], [s, a], ⟨⟨m, j, p0, p1, p2, p3, p4, p5, e, h⟩, q1, q2, q3, q4, e2⟩ => ⟨m, j, p0, p1, p2, p3, p4, p5, h, .inr (.inl ⟨f, q1, q2, q3, q4, rfl, by rw [e, e2]⟩)⟩
  | [f, f2], [s, a, b], ⟨⟨m, j, p0, p1, p2, p3, p4, p5, e, h⟩, ⟨q1, q2, q3, q4, e2⟩, ⟨r1, r2, r3, r4, e3⟩, hne⟩ => ⟨m, j, p0, p1, p2, p3, p4, p5, h, .inr (.inr ⟨f, f2, q1, q2, q3, q4, r1, r2, r3, r4, rfl, by rw [e, e2, e3], hne⟩)⟩
  | [], [], h => h.elim
  | [], _ :: _ :: _, h => h.elim
  | [_], [], h => h.elim
  | [_], [_], h => h.elim
  | [_], _ :: _ :: _ :: _, h => h.elim
  | [_, _], [], h => h.elim
  | [_, _], [_], h => h.elim
  | [_, _], [_, _], h => h.elim
  | [_, _], _ :: _ :: _ :: _ :: _, h => h.elim
  | _ :: _ :: _ :: _, [], h => h.elim
  | _ :: _ :: _ :: _, [_], h => h.elim
  | _ :: _ :: _ :: _, [_, _], h => h.elim
  | _ :: _ :: _ :: _, _ :: _ :: _ :: _, h => h.elim
theorem lookup_two {f f2 : Str} {v v2 : Value} (hne : f ≠ f2) : (fun y : Str => if y = f2 then some v2 else if y = f then some v else none) = fun y => List.lookup y [(f, v), (f2, v2)] := by
  funext y
  by_cases h1 : y = f
  · subst h1
    rw [if_neg hne, if_pos rfl, List.lookup_cons, beq_self_eq_true]
  · rw [if_neg h1, List.lookup_cons, show (y == f) = false from beq_eq_false_iff_ne.mpr h1]
    by_cases h2 : y = f2
    · subst h2
      rw [if_pos rfl]
      show _ = List.lookup y [(y, v2)]
      rw [List.lookup_cons, beq_self_eq_true]
    · rw [if_neg h2]
      show _ = List.lookup y [(f2, v2)]
      rw [List.lookup_cons, show (y == f2) = false from beq_eq_false_iff_ne.mpr h2]
      rfl
theorem lookup_one {f : Str} {v : Value} : (fun y : Str => if y = f then some v else none) = fun y => List.lookup y [(f, v)] := by
  funext y
  by_cases h1 : y = f
  · subst h1
    rw [if_pos rfl, List.lookup_cons, beq_self_eq_true]
  · rw [if_neg h1, List.lookup_cons, show (y == f) = false from beq_eq_false_iff_ne.mpr h1]
    rfl
theorem err_init (T : ErrK K C B newId initId tl fI fs) (Fn : ErrFn K C fI file params body sc cc cda qual) (S : ErrSc fs sc) (hI : InitOk fs body) (X : K.In h) (hlim : h.NoLimit) {mg mb : Str → Option Value} (hG : h.Ns mainGlobals mg) (hmg : mg "super" = none) (hB : h.Ns builtinsNs mb) (hmb : mb "super" = some (.type "super"))
    (hfile : ((prog.main.file : Str) == file) = true) (htop : (prog.main.scope.names.lookup ("super" : Str)).isSome = false) {ar : Arg} (hp : (params.posonlyargs ++ params.args).head? = some ar) (har : ar.arg = "self")
    {x t0 : Addr} {args : Args} {vs : List Value} {R : Result → Shared → Prop} (hx : h.get? x = some (excO C t0)) (hnx : K.lookup x = none) (hgx : mainGlobals ≠ x) (hbx : builtinsNs ≠ x) (hl : vs.length = fs.length) (hnd : fs.Nodup) (hns : ("self" : Str) ∉ fs) (hroom : A.depth < recursionLimit)
    (hbind : ∀ (kV doc pm : Value) (an : Option Addr) (ct : Value), BindsTo ⟨h, g, d, t, os⟩ (ksFn "__init__" qual params body sc .none kV doc pm an (.ref cda) ct cc) args (slf x :: fs.zip vs))
    (hq : ∀ h' t' od, ErrEnd h h' x C od (fs.zip vs) → R (.ok (.ret .none)) ⟨h', g, d, t', os⟩) :
    codeAny (model prog w) A (.call (.ref fI) args) R ⟨h, g, d, t, os⟩ := by
  obtain ⟨oc, od, kV, doc, pm, an, ct, osl, hf⟩ := Fn.at_
  have hloc : ∀ y ∈ slf x :: fs.zip vs, sc.names.lookup y.1 = some .local := fun y hy => by
    rcases List.mem_cons.mp hy with rfl | hy
    · exact S.self
    · exact S.loc _ (List.of_mem_zip hy).1
  refine ks_codeAny_call_defAt (fd := ksFn "__init__" qual params body sc .none kV doc pm an (.ref cda) ct cc) (body := body) (binds := slf x :: fs.zip vs) hroom (X _ _ hf) rfl hlim (codeRec_of X Fn.rec_) rfl (hbind kV doc pm an ct) S.cell hloc (fun h₁ hn₁ k₁ => ?_) S.co S.gen S.kind
  have xL : h.objs.size ≠ x := Nat.ne_of_gt (Heap.lt_size hx)
  have X₁ : K.In h₁ := X.keeps k₁
  have bk : ∀ {h2 : Heap}, (∀ b o, b ≠ x → h₁.get? b = some o → h2.get? b = some o) → K.In h2 := fun {h2} k b o e => k b o (fun z => by rw [z, hnx] at e; cases e) (X₁ _ _ e)
  obtain ⟨oL, es, ep, hL, rL⟩ := id hn₁
  have hm0 : (List.lookup ("self" : Str) (slf x :: fs.zip vs).reverse) = some (.ref x) := by
    match fs, vs, hl, hns with
    | [], [], _, _ => rfl
    | [f], [v], _, hns =>
      have n1 : (("self" : Str) == f) = false := beq_eq_false_iff_ne.mpr fun z => hns (by rw [z]; exact List.mem_cons_self)
      show List.lookup ("self" : Str) [(f, v), slf x] = _
      rw [List.lookup_cons, n1]
      rfl
    | f :: f2 :: r, vs, hl, hns =>
      have key : ∀ l : List (Str × Value), (∀ p ∈ l, ("self" : Str) ≠ p.1) → List.lookup ("self" : Str) (l ++ [slf x]) = some (.ref x) := by
        intro l
        induction l with
        | nil => intro _; rfl
        | cons p l ih =>
          intro hp
          obtain ⟨a, b⟩ := p
          show List.lookup ("self" : Str) ((a, b) :: (l ++ [slf x])) = _
          rw [List.lookup_cons, show (("self" : Str) == a) = false from beq_eq_false_iff_ne.mpr (hp (a, b) List.mem_cons_self)]
          exact ih fun q hq => hp q (List.mem_cons_of_mem _ hq)
      rw [List.reverse_cons]
      exact key _ fun p hp z => hns (by rw [z]; exact (List.of_mem_zip (List.mem_reverse.mp hp)).1)
  have sup : ∀ {m j p0 p1 p2 p3 p4 p5} {Q : Flow → Shared → Prop} {E : Value → Shared → Prop}, (p2.endLine == p4.line) = true → (∀ h' t' t1, (∀ b o, b ≠ x → h₁.get? b = some o → h'.get? b = some o) → h'.get? x = some (excO C t1) → Q .next ⟨h', g, d, t', os⟩) →
      _root_.PySem.wpAt (model prog w) (A.deeper (ksEnv qual sc h.objs.size fI (.ref cda) cc)) (.func body (ksEnv qual sc h.objs.size fI (.ref cda) cc)) (exec (supS m j p0 p1 p2 p3 p4 p5) (ksEnv qual sc h.objs.size fI (.ref cda) cc)) Q E ⟨h₁, g, d, t + (slf x :: fs.zip vs).length, os⟩ := fun {m j p0 p1 p2 p3 p4 p5 Q E} hp2 hq' =>
    st_super T Fn S X₁ (hG.keeps k₁) hmg (hB.keeps k₁) hmb hfile htop hp har hn₁ hm0 (k₁ _ _ hx) hp2 hq'
  have lk : ∀ {h2 : Heap}, (∀ b o, b ≠ x → h₁.get? b = some o → h2.get? b = some o) → h2.Ns h.objs.size (fun y => (slf x :: fs.zip vs).reverse.lookup y) := fun {h2} k => ⟨oL, es, ep, k _ _ xL hL, rL⟩
  clear hn₁ hL rL
  have kb : ∀ {h2 : Heap} {a : Addr}, (∀ b o, b ≠ x → h₁.get? b = some o → h2.get? b = some o) → h2.objs.size ≤ a → h.objs.size ≤ a := fun {h2 a} k ha => by
    obtain ⟨o, _, _, ho, _⟩ := lk k
    exact Nat.le_trans (Nat.le_of_lt (Heap.lt_size ho)) ha
  obtain ⟨m, j, p0, p1, p2, p3, p4, p5, hp2, ⟨rfl, rfl⟩ | ⟨f, q1, q2, q3, q4, rfl, rfl⟩ | ⟨f, f2, q1, q2, q3, q4, r1, r2, r3, r4, rfl, rfl, hne⟩⟩ := hI.cases
  · refine ks_wpAt_execs_cons (sup hp2 fun h' t' t1 k e => wpAt_of_wpAny (wpAny_execs_nil (hq h' t' none ⟨fun b o hb ho => k b o hb (k₁ _ _ ho), ⟨t1, e⟩, rfl⟩)))
  · obtain ⟨v, rfl⟩ : ∃ v, vs = [v] := by
      match vs, hl with
      | [v], _ => exact ⟨v, rfl⟩
    refine ks_wpAt_execs_cons (sup hp2 fun h' t' t1 k e => ks_wpAt_execs_cons ?_)
    have m1 : List.lookup f (slf x :: [f].zip [v]).reverse = some v := by
      show List.lookup f [(f, v), slf x] = _
      rw [List.lookup_cons, beq_self_eq_true]
    refine st_asg_new T S (bk k) List.mem_cons_self (lk k) hm0 m1 e fun h2 t2 dx k2 ds dn e2 d2 => ?_
    exact wpAt_of_wpAny (wpAny_execs_nil (hq h2 t2 (some dx) ⟨fun b o hb ho => k2 b o hb (k b o hb (k₁ _ _ ho)), ⟨t1, e2⟩, ⟨(fun z => nomatch z), kb k ds, dn, by rw [lookup_one] at d2; exact d2⟩⟩))
  · obtain ⟨v, v2, rfl⟩ : ∃ v v2, vs = [v, v2] := by
      match vs, hl with
      | [v, v2], _ => exact ⟨v, v2, rfl⟩
    have n2 : (f == f2) = false := beq_eq_false_iff_ne.mpr hne
    refine ks_wpAt_execs_cons (sup hp2 fun h' t' t1 k e => ks_wpAt_execs_cons ?_)
    have m1 : List.lookup f (slf x :: [f, f2].zip [v, v2]).reverse = some v := by
      show List.lookup f [(f2, v2), (f, v), slf x] = _
      rw [List.lookup_cons, n2, List.lookup_cons, beq_self_eq_true]
    have m2 : List.lookup f2 (slf x :: [f, f2].zip [v, v2]).reverse = some v2 := by
      show List.lookup f2 [(f2, v2), (f, v), slf x] = _
      rw [List.lookup_cons, beq_self_eq_true]
    refine st_asg_new T S (bk k) List.mem_cons_self (lk k) hm0 m1 e fun h2 t2 dx k2 ds dn e2 d2 => ks_wpAt_execs_cons ?_
    have k12 : ∀ b o, b ≠ x → h₁.get? b = some o → h2.get? b = some o := fun b o hb ho => k2 b o hb (k b o hb ho)
    have hw : Within (fun y : Str => if y = f then some v else none) [f] := fun y hy => by
      by_cases z : y = f
      · rw [z]; exact List.mem_cons_self
      · exact absurd (if_neg z) hy
    refine st_asg_old T S (bk k12) (List.mem_cons_of_mem _ List.mem_cons_self) (lk k12) hm0 m2 e2 d2 hw (by show 1 ≤ 1000; decide) fun h3 t3 k3 d3 => ?_
    have xd : x ≠ dx := fun z => dn z.symm
    refine wpAt_of_wpAny (wpAny_execs_nil (hq h3 t3 (some dx) ⟨fun b o hb ho => ?_, ⟨t1, k3 _ _ xd e2⟩, ⟨(fun z => nomatch z), kb k ds, dn, by rw [lookup_two hne] at d3; exact d3⟩⟩))
    refine k3 b o (fun z => ?_) (k12 b o hb (k₁ _ _ ho))
    rw [z] at ho
    exact absurd (Heap.lt_size ho) (Nat.not_lt.mpr (kb k ds))
end
end My
namespace My
open PySem PySem.Spec PyProof.Rows L2 PySem.W PySem.HandSPX PySem.Calls
/-! ### an error made -/
structure ErrMade (h h' : Heap) (e C : Addr) (od : Option Addr) (fs : List (Str × Value)) : Prop where
  keep : ∀ b o, h.get? b = some o → h'.get? b = some o
  new : h.objs.size ≤ e
  obj : ∃ t1 : Addr, h'.get? e = some { cls := .ref C, dict := od, data := .fields #[.ref t1, .none, .none, .none, .bool false, .none] }
  dict : match od with
    | none => fs = []
    | some dx => fs ≠ [] ∧ h.objs.size ≤ dx ∧ dx ≠ e ∧ h'.Ns1 dx (fun y => fs.lookup y)
/-- .. all of the class and its __init__ -/
structure ErrT (K : Frag) (C : Addr) (fs : List Str) (file : Str) : Prop where
  ex : ∃ (B newId initId : String) (tl : List Value) (fI cc cda : Addr) (qual : Str) (params : Arguments) (body : List Stmt) (sc : Scope), ErrK K C B newId initId tl fI fs ∧ ErrFn K C fI file params body sc cc cda qual ∧ ErrSc fs sc ∧ InitOk fs body ∧
    (∃ ar, (params.posonlyargs ++ params.args).head? = some ar ∧ ar.arg = "self") ∧ (∀ (s' : Shared) (self : Value) (us : List Value) (kV doc pm : Value) (an : Option Addr) (ct : Value), us.length = fs.length → BindsTo s' (ksFn "__init__" qual params body sc .none kV doc pm an (.ref cda) ct cc) ⟨self :: us, []⟩ (("self", self) :: fs.zip us))
  nd : fs.Nodup
  ns : ("self" : Str) ∉ fs
  le : fs.length ≤ 2
  kp : keepIn K (.ref C) = true
  ex2 : subIn K (.ref C) (.type "BaseException") = some true
  ty : typeIn K (.ref C) = some (.type "type")
section
variable {prog : Program} {w : World} {A : Around} {E : Value → Shared → Prop} {K : Frag} {C : Addr} {fs : List Str} {file : Str} {h : Heap} {g : Array GenState} {d : Drawn} {t : Nat} {os : OsState}
theorem err_made (T : ErrT K C fs file) (X : K.In h) (hlim : h.NoLimit) {mg mb : Str → Option Value} (hG : h.Ns mainGlobals mg) (hmg : mg "super" = none) (hB : h.Ns builtinsNs mb) (hmb : mb "super" = some (.type "super"))
    (hfile : ((prog.main.file : Str) == file) = true) (htop : (prog.main.scope.names.lookup ("super" : Str)).isSome = false) {us : List Value} {R : Result → Shared → Prop} (hl : us.length = fs.length) (hroom : A.depth + 1 < recursionLimit)
    (hq : ∀ h' t' e od, ErrMade h h' e C od (fs.zip us) → R (.ok (.ret (.ref e))) ⟨h', g, d, t', os⟩) :
    codeAny (model prog w) A (.call (.ref C) ⟨us, []⟩) R ⟨h, g, d, t, os⟩ := by
  obtain ⟨B, newId, initId, tl, fI, cc, cda, qual, params, body, sc, TK, Fn, S, hI, ⟨ar, hp, har⟩, hb⟩ := T.ex
  obtain ⟨nm, N, q, bs, bm, hdct, sn, sub, ab, col, dd, k0, k1, k2, k3, k5, hC, hT⟩ := excInit_of X TK.new
  obtain ⟨oI, hoI, hcI⟩ : ∃ oI, h.get? fI = some oI ∧ oI.cls = .type "function" := by
    obtain ⟨o, ho, hc⟩ := Option.map_eq_some_iff.mp (show (K.lookup fI).map (·.cls) = some (.type "function") from beq_iff_eq.mp TK.fn)
    exact ⟨o, X _ _ ho, hc⟩
  have hz : us.length ≤ sizeLine := by
    rw [hl, sizeLine_eq]
    exact Nat.le_trans T.le (by decide)
  have k : ∀ b o, h.get? b = some o → ((h.push (kdv_tup us)).push (excO C h.objs.size)).get? b = some o := fun b o e => Heap.get?_push_of_some _ (Heap.get?_push_of_some _ e)
  have hget : ((h.push (kdv_tup us)).push (excO C h.objs.size)).get? (h.objs.size + 1) = some (excO C h.objs.size) := by heap_get
  have big : ∀ {b o}, h.get? b = some o → b ≠ h.objs.size + 1 := fun {b o} e => Nat.ne_of_lt (Nat.lt_succ_of_lt (Heap.lt_size e))
  have hnx : K.lookup (h.objs.size + 1) = none := by
    cases e : K.lookup (h.objs.size + 1) with
    | none => rfl
    | some o => exact absurd rfl (big (X _ _ e))
  have hgx : mainGlobals ≠ h.objs.size + 1 := by
    obtain ⟨o, _, _, ho, _⟩ := id hG
    exact big ho
  have hbx : builtinsNs ≠ h.objs.size + 1 := by
    obtain ⟨o, _, _, ho, _⟩ := id hB
    exact big ho
  refine HandSPX.call_own TK.eb.F hT hC (looks_findIn X TK.iC) (fun self => exc_bind hoI hcI self) hz ?_
  refine err_init TK Fn S hI (X.keeps k) (hlim.keeps k) (hG.keeps k) hmg (hB.keeps k) hmb hfile htop hp har (x := h.objs.size + 1) (vs := us) hget hnx hgx hbx hl T.nd T.ns hroom (fun kV doc pm an ct => hb _ _ us kV doc pm an ct hl) fun h' t' od M => ⟨rfl, hq h' t' _ od ⟨fun b o ho => M.keep b o (big ho) (k b o ho), Nat.le_succ _, M.obj, ?_⟩⟩
  have hd := M.dict
  cases od with
  | none => exact hd
  | some dx =>
    refine ⟨hd.1, Nat.le_trans ?_ hd.2.1, hd.2.2⟩
    simp only [Heap.size_push]
    omega
end
/-! ### within a def -/
/-- what a program must have for super() -/
class OkP (file : Str) (P : Program) : Prop where
  file : ((P.main.file : Str) == file) = true
  top : (P.main.scope.names.lookup ("super" : Str)).isSome = false
theorem relO_zip : ∀ {fs : List Str} {vs : List V} {us : List Value}, Vals vs us → ∀ f, RelO ((fs.zip vs).lookup f) ((fs.zip us).lookup f)
  | [], _, _, _, _ => trivial
  | _ :: _, _, _, .nil, _ => trivial
  | g :: fs, _, _, .cons rv r, f => by
    show RelO (List.lookup f ((g, _) :: fs.zip _)) (List.lookup f ((g, _) :: fs.zip _))
    rw [List.lookup_cons, List.lookup_cons]
    cases f == g with
    | true => exact rv
    | false => exact relO_zip r f
/-- C(..), an error -/
def tMkErr (C : Addr) (fs : List Str) (ta : TA) : L2.St → Hp → XK → Prop := fun σ H Q => ta σ H fun vs H1 => vs.length = fs.length ∧ (fs = [] → Q (.ref C) none H1) ∧ (fs ≠ [] → ∀ d, H1 d = none → Q (.ref C) (some d) (upd H1 d (.xd (fs.zip vs))))
section
variable {X : Cx} {C : Addr} {fs : List Str} {file : Str} {es : List Expr} {ta : TA} {p pos : Pos} {k : Nat} {x : Str}
theorem pmk_err (hP : OkP file X.prog) (T : ErrT X.K C fs file) (hm : X.mg x = some (.ref C)) (hs : X.mg "super" = none) (hr : Room k X.A) (hk : 1 ≤ k) (ha : PA X es ta) (hg : Gl X x) (hn : es = [] → ta = tNil := by intro z; first | rfl | cases z) (hse : StarOk X es := by first | exact trivial | rfl)
    (hpl : ((backTo pos (starEach es X.env)).any (·.1) || (backToKw pos (keywordEach [] X.env)).any (·.1.isNone)) = false := by rfl) (hdb : (x == ("__debug__" : Str)) = false := by decide) :
    PMk X (.Call (.Name x p) es [] pos) (tMkErr C fs ta) := by
  intro pins s σ H Q I h
  refine wpAny_Call_Name_kw (ld_glob I hg hm ?_ hdb)
  refine callWith_any (fv := .ref C) (first := []) (tk := tNil) (ks := []) (R := fun vs _ H1 => vs.length = fs.length ∧ (fs = [] → Q (.ref C) none H1) ∧ (fs ≠ [] → ∀ d, H1 d = none → Q (.ref C) (some d) (upd H1 d (.xd (fs.zip vs))))) T.kp ha pk_nil hn hse rfl rfl hpl I h fun us vs ws zs s2 H2 I2 r rz ⟨l1, q1, q2⟩ => ?_
  rw [List.zip_nil_left]
  have hl : us.length = fs.length := r.length.symm.trans l1
  have hlim := I2.nolimit
  obtain ⟨mb, hb1, hb2⟩ := I2.mod.blt
  have hmb : mb "super" = some (.type "super") := (hb2 _ (by decide)).trans (by kernel_rfl)
  have bk := I2.bk
  obtain ⟨hp, g, dr, tk, os⟩ := s2
  refine wpAny_call (err_made T I2.kIn hlim (I2.mod.glob.keeps bk) hs (hb1.keeps bk) hmb hP.file hP.top hl (by have := hr.dp; omega) fun h' tk' e od M => ?_)
  show MkP X pins σ Q (.ref e) ⟨h', g, dr, tk', os⟩
  obtain ⟨t1, ho⟩ := M.obj
  have hd := M.dict
  have hen : hp.get? e = none := by
    cases z : hp.get? e with
    | none => rfl
    | some o => exact absurd (Heap.lt_size z) (Nat.not_lt.mpr M.new)
  cases od with
  | none =>
    have hfs : fs = [] := by
      have : fs.zip us = [] := hd
      cases fs with
      | nil => rfl
      | cons f fs =>
        cases us with
        | nil => cases hl
        | cons => cases this
    exact ⟨e, _, _, ⟨hp, g, dr, tk, os⟩, H2, .ref C, none, rfl, I2, M.keep, hen, ho, ⟨rfl, rfl⟩, rfl, rfl, I2.hok.fresh M.new, rfl, I2.bare, raises_own T.ex2 T.ty, q1 hfs⟩
  | some d =>
    obtain ⟨hne, dbig, dne, hns⟩ := hd
    have hfs : fs ≠ [] := fun z => hne (by rw [z]; rfl)
    obtain ⟨G', g1, g2⟩ := restrict h' fun b => decide (b ≠ e)
    have gk : ∀ b, b ≠ e → G'.get? b = h'.get? b := fun b hb => g1 b (decide_eq_true hb)
    have ge : G'.get? e = none := g2 e (by simp)
    have old : ∀ b o, hp.get? b = some o → G'.get? b = some o := fun b o q => (gk b (Nat.ne_of_lt (Nat.lt_of_lt_of_le (Heap.lt_size q) M.new))).trans (M.keep b o q)
    have ob : ObjOk X.prog X.w (upd H2 d (.xd (fs.zip vs))) G' d (.xd (fs.zip vs)) := ⟨_, hns.at (fun o q => (gk d dne).trans q), fun f => relO_zip r f⟩
    have J : Inv X pins σ (upd H2 d (.xd (fs.zip vs))) ⟨G', g, dr, tk', os⟩ := I2.laid (t' := tk') old dbig ob
    refine ⟨e, _, _, ⟨G', g, dr, tk', os⟩, _, .ref C, some d, rfl, J, fun b o q => ?_, ge, ho, ⟨rfl, rfl⟩, rfl, rfl, ?_, rfl, I2.bare, raises_own T.ex2 T.ty, q2 hfs d (I2.hok.fresh dbig)⟩
    · by_cases hb : b = e
      · have q' : G'.get? b = some o := q
        rw [hb, ge] at q'; cases q'
      · exact (gk b hb).symm.trans q
    · rw [upd_ne (Ne.symm dne)]
      exact I2.hok.fresh M.new
end
/-! ### an error held as a value -/
def ErO (a : Addr) (cls : Value) (d : Option Addr) : HO := .ext fun h => ∃ (oe : Obj) (vs : Array Value), h.get? a = some oe ∧ Zc cls d oe ∧ oe.data = .fields vs
theorem erO_ok {P : Program} {w : World} {H : Hp} {h : Heap} {a : Addr} {cls : Value} {d : Option Addr} {oe : Obj} {vs : Array Value} (e : h.get? a = some oe) (z : Zc cls d oe) (hd : oe.data = .fields vs) : ObjOk P w H h a (ErO a cls d) :=
  ⟨⟨oe, vs, e, z, hd⟩, ⟨_, e⟩, fun h1 h2 z k => by
    obtain ⟨o, vs, q, r⟩ := z
    exact ⟨o, vs, k _ q, r⟩⟩
theorem erO_at {P : Program} {w : World} {H : Hp} {h : Heap} {a : Addr} {cls : Value} {d : Option Addr} (hok : HOk P w H h) (he : H a = some (ErO a cls d)) : ∃ (oe : Obj) (vs : Array Value), h.get? a = some oe ∧ Zc cls d oe ∧ oe.data = .fields vs := by
  have x : ObjOk P w H h a (.ext fun h => ∃ (oe : Obj) (vs : Array Value), h.get? a = some oe ∧ Zc cls d oe ∧ oe.data = .fields vs) := hok a _ he
  exact x.1
theorem Inv.adopt {X : Cx} {pins : List (Addr × Obj)} {σ : L2.St} {H : Hp} {s : Shared} {a : Addr} {oe : Obj} {vs : Array Value} {cls : Value} {d : Option Addr} (I : Inv X pins σ H s) (he : s.heap.get? a = some oe) (hz : Zc cls d oe) (hd : oe.data = .fields vs) (na : H a = none) (h0 : X.s_0.heap.get? a = none)
    (nL : a ≠ X.env.locals) (np : ∀ p ∈ X.pn ++ pins, p.1 ≠ a) : Inv X pins σ (upd H a (ErO a cls d)) s := by
  have nn : ∀ {b : Addr} {o : HO}, H b = some o → b ≠ a := fun {b o} e z => by rw [z, na] at e; cases e
  refine ⟨I.ok, I.os, I.bare, ⟨I.base.keep, I.base.slot, fun b o e n hx => ?_, I.base.there, fun b xs e => ?_, fun b o u e => ?_, fun b ps e => ?_⟩, I.loc, I.cell, ?_, fun x c e => ?_, fun p hp => ?_, fun b o e => ?_, I.len⟩
  · have ne : b ≠ a := fun z => by rw [z, h0] at e; cases e
    rw [upd_ne ne]
    exact I.base.free b o e n hx
  · have q := I.base.tups b xs e
    rw [upd_ne (nn q)]
    exact q
  · have q := I.base.frzs b o u e
    rw [upd_ne (nn q)]
    exact q
  · obtain ⟨more, q⟩ := I.base.tbls b ps e
    exact ⟨more, by rw [upd_ne (nn q)]; exact q⟩
  · rw [upd_ne nL.symm]
    exact I.free
  · have ne : c ≠ a := fun z => by
      obtain ⟨v, hv⟩ := I.cell x c e
      rw [z] at hv
      obtain ⟨o, ho, hd2⟩ := hv
      rw [he] at ho
      cases ho
      rw [hd] at hd2
      cases hd2
    rw [upd_ne ne]
    exact I.freeC x c e
  · obtain ⟨q1, q2, q3⟩ := I.pin p hp
    exact ⟨q1, by rw [upd_ne (np p hp)]; exact q2, q3⟩
  · by_cases z : b = a
    · subst z
      rw [upd_same] at e
      cases e
      exact erO_ok he hz hd
    · rw [upd_ne z] at e
      refine (I.hok b o e).stay (fun c u _ q => q) (fun c q => ?_) fun c xs q => ?_
      · rw [upd_ne (nn q)]
        exact q
      · rw [upd_ne (nn q)]
        exact q
end My
namespace My
open PySem PySem.Spec PyProof.Rows L2
/-! ### try: .. except C as n: .. (other clauses may follow): the error is a value in the suite and behind it -/
theorem Inv.suite0 {X : Cx} {pins : List (Addr × Obj)} {σ : L2.St} {H : Hp} {s : Shared} (I : Inv X pins σ H s) (a : Addr) : Inv (X.suite a (X.pn ++ pins)) [] σ H s :=
  ⟨I.ok.suite _ _, I.os, I.bare, I.base, I.loc, I.cell, I.free, I.freeC, fun p hp => I.pin p (by rw [List.append_nil] at hp; exact hp), I.hok, I.len⟩
theorem Inv.unsuite0 {X : Cx} {pins : List (Addr × Obj)} {σ : L2.St} {H : Hp} {s : Shared} {a : Addr} (I : Inv (X.suite a (X.pn ++ pins)) [] σ H s) (ok : X.Ok) : Inv X pins σ H s :=
  ⟨ok, I.os, I.bare, I.base, I.loc, I.cell, I.free, I.freeC, fun p hp => I.pin p (by rw [List.append_nil]; exact hp), I.hok, I.len⟩
def wAsK (K : PySem.W.Frag) (c : Value) (i : Nat) (ts : TS) (D : Ends) : WX := fun cls d σ H => PySem.W.exmOne K cls c = some true ∧ ∀ a, H a = none →
  ts { nx := fun σ' H' => D.nx (σ'.set i none) H', rt := D.rt, bk := fun σ' H' => D.bk (σ'.set i none) H', ct := fun σ' H' => D.ct (σ'.set i none) H' } (σ.set i (some (.ref a))) (upd H a (ErO a cls d))
theorem ps_try_keep {X : Cx} {x n : Str} {c : Value} {i : Nat} {body suite : List Stmt} {b₀ : Stmt} {np pos pos' : Pos} {tb : WX → TS} {ts : TS} {more : List ExceptHandler}
    (hs : X.stack = X.env :: X.outer) (hf : X.env.frame = some X.env.locals) (hex : X.ex = []) (hN : X.N.Nodup) (hi : X.N[i]? = some n) (hln : X.env.kindOf n = some .local) (hc : Names X x c)
    (hb : ∀ (W : WX) (pn : List (Addr × Obj)) (xe : Value → Shared → Prop), Takes (X.tr pn xe) W → PassesOwn (model X.prog X.w) X.A X.env xe → PSs (X.tr pn xe) body (tb W))
    (hsu : ∀ (a : Addr) (pn : List (Addr × Obj)), PSs (X.suite a pn) (b₀ :: suite) ts) :
    PS X (.Try body (.ExceptHandler (some (.Name x np)) (some n) (b₀ :: suite) pos' :: more) [] [] pos) (fun D σ H => tb (wAsK X.K c i ts D) D σ H) := by
  refine ⟨fun pins s σ H D I h => ?_⟩
  have ok := I.ok
  have hfr : X.A.frames = some (X.env :: X.outer) := by rw [ok.frames, hs]
  have hloc : Loc X.env.scope n := .inl hln
  refine wpAny_Try_except ?_
  refine wpAny_mono ((hb (wAsK X.K c i ts D) (X.pn ++ pins) (fun e s₁ => wpAny (model X.prog X.w) X.A (noteFrame e X.env) (fun _ s₂ => wpAny (model X.prog X.w) X.A (setFlight e none) (fun _ s₃ =>
    wpAny (model X.prog X.w) X.A (handleBy e X.env (.ExceptHandler (some (.Name x np)) (some n) (b₀ :: suite) pos' :: more)) (L2.SP X pins D) X.xe s₃) X.xe s₂) X.xe s₁) (fun u s' xx => ?_) PassesOwn.looking).run [] s σ H D (I.toTry _) h) (fun f s1 hsp => ?_) (fun e s1 he => he)
  · obtain ⟨a, B, sI, pins', σ', H', cls, d, rfl, J', nb, up, sky, na, os, ag, hb1, hyes⟩ := xx
    have J : Inv X pins σ' H' sI := J'.ofTry ok
    have sky' : Sky B (X.env :: X.outer) a (Zc cls d) X.env.locals s'.heap := by rw [← hs]; exact sky
    show wpAny (model X.prog X.w) X.A (noteFrame (.ref a) X.env) _ _ _
    refine Sky.land Zc.steady hfr hf sky' fun h3 fl3 up3 => ?_
    have J3 : Inv X pins σ' H' { s' with heap := h3 } := J.landed nb fl3.1 (up.trans up3) os ag
    obtain ⟨oe3, vs3, he3, hz3, hd3⟩ := fl3.there
    have notFr : ∀ {h : Heap} {o : Obj} {vs : Array Value}, h.FunFrames B (X.env :: X.outer) → h.get? a = some o → o.data = .fields vs → a ∉ frs (X.env :: X.outer) := fun {h o vs} ff e dd hm => by
      obtain ⟨_, o', e', hnf⟩ := ff.mem hm
      rw [e] at e'; cases e'
      exact hnf _ dd
    have nfr := notFr fl3.2.2.1 he3 hd3
    have nL : a ≠ X.env.locals := fun z => nfr (List.mem_filterMap.mpr ⟨X.env, List.mem_cons_self, by rw [hf, z]⟩)
    have nF : a ∉ X.fs := fun hm => by
      obtain ⟨e, he, q⟩ := List.mem_filterMap.mp hm
      exact nfr (List.mem_filterMap.mpr ⟨e, List.mem_cons_of_mem _ he, q⟩)
    have hIa : sI.heap.get? a = none := by
      cases z : sI.heap.get? a with
      | none => rfl
      | some o =>
        have q := nb a o z (by rw [hs]; exact nfr)
        rw [fl3.2.1] at q
        cases q
    have h0 : X.s_0.heap.get? a = none := by
      cases z : X.s_0.heap.get? a with
      | none => rfl
      | some o =>
        obtain ⟨o', q⟩ := J.base.there a o z (by rw [hex]; exact fun z => nomatch z)
        rw [hIa] at q
        cases q
    have np' : ∀ p ∈ X.pn ++ pins, p.1 ≠ a := fun p hp z => by
      have q := (J.pin p hp).1
      rw [z, hIa] at q
      cases q
    have S3 := J3.suite he3 hd3 na nL nF
    refine wpAny_handleBy_cons (codeAny_handlers_test ?_) (by intro q; cases q)
    have LT : PySem.W.Looks (model X.prog X.w) h3 (typeOf (.ref a)) cls := fun A Q E s k q => wpAny_typeOf_ref (k _ _ he3) (by rw [hz3.1]; exact q)
    have LM := PySem.W.exm_one (M := model X.prog X.w) (J3.kIn) LT hb1
    have test : ∀ {Q : Value → Shared → Prop} {E : Value → Shared → Prop}, Q c { s' with heap := h3 } → wpAny (model X.prog X.w) (X.A.mark (some (.ref a))) (eval (.Name x np) X.env) Q E { s' with heap := h3 } := fun {Q E} q => by
      obtain ⟨hg, hdbg, hm | ⟨hm, hv, hnn⟩⟩ := hc
      · exact ld_glob (X := X.suite a ((a, oe3) :: (X.pn ++ pins))) S3 hg hm q hdbg
      · exact ld_blt (X := X.suite a ((a, oe3) :: (X.pn ++ pins))) S3 hg hm hv q hnn hdbg
    refine test (LM.here ?_)
    refine codeAny_handlers_suite_as ?_
    refine HandSPX.lands_againZ fl3 fun h4 fl4 up4 => ?_
    have J4 : Inv X pins σ' H' { s' with heap := h4 } := J.landed nb fl4.1 ((up.trans up3).trans up4) os ag
    obtain ⟨oe4, vs4, he4, hz4, hd4⟩ := fl4.there
    have S4 := Inv.suite0 (Inv.adopt J4 he4 hz4 hd4 na h0 nL np') a
    refine store_ok (X := X.suite a (X.pn ++ pins)) (v := .ref a) S4 hN hi hloc rfl (fun s5 S5 => ?_) (.inr hln)
    refine wpAny_mono ((hsu a (X.pn ++ pins)).run [] s5 _ _ _ S5 (hyes a na)) (fun f s6 hsp => ?_) (fun _ _ z => False.elim z)
    have end_ : ∀ {σ6 : L2.St} {H6 : Hp} {Q : Shared → Prop}, Inv (X.suite a (X.pn ++ pins)) [] σ6 H6 s6 → (∀ s7, Inv X pins (σ6.set i none) H6 s7 → Q s7) →
        wpAny (model X.prog X.w) X.A (do bindName X.env n .none; unbindBehindTheSuite X.env n pos') (fun _ s7 => Q s7) X.xe s6 := fun {σ6 H6 Q} S6 hq => gone_ok (Inv.unsuite0 S6 ok) hN hi hln hq
    cases f with
    | next =>
      obtain ⟨σ6, H6, S6, q6⟩ := hsp
      exact end_ S6 fun s7 J7 => ⟨_, _, J7, q6⟩
    | brk =>
      obtain ⟨σ6, H6, S6, q6⟩ := hsp
      exact end_ S6 fun s7 J7 => ⟨_, _, J7, q6⟩
    | cont =>
      obtain ⟨σ6, H6, S6, q6⟩ := hsp
      exact end_ S6 fun s7 J7 => ⟨_, _, J7, q6⟩
    | ret u =>
      obtain ⟨v6, σ6, H6, S6, r6, q6⟩ := hsp
      exact end_ S6 fun s7 J7 => ⟨_, _, _, J7, r6, q6⟩
  · cases f with
    | next =>
      obtain ⟨σ', H', J', q⟩ := hsp
      exact wpAny_execs_nil ⟨σ', H', J'.ofTry ok, q⟩
    | brk =>
      obtain ⟨σ', H', J', q⟩ := hsp
      exact ⟨σ', H', J'.ofTry ok, q⟩
    | cont =>
      obtain ⟨σ', H', J', q⟩ := hsp
      exact ⟨σ', H', J'.ofTry ok, q⟩
    | ret u =>
      obtain ⟨v, σ', H', J', r, q⟩ := hsp
      exact ⟨v, σ', H', J'.ofTry ok, r, q⟩
/-! ### e.f, e an error -/
/-- what the classes of errors have -/
structure XcC (K : PySem.W.Frag) (C : Addr) : Prop where
  ga : PySem.W.findIn K (.ref C) "__getattribute__" = some (some (.builtin "BaseException.__getattribute__"))
  gg : PySem.W.findIn K (.ref C) "__getattr__" = some none
  exC : PySem.W.subIn K (.ref C) (.type "BaseException") = some true
  hdC : PySem.W.hasDictIn K C = true
def tXfld (K : PySem.W.Frag) (te : TE) (f : Str) : TE := fun σ H Q => te σ H fun x H1 => ∃ (a C dd : Addr) (fs : List (Str × V)) (v : V), x = .ref a ∧ H1 a = some (ErO a (.ref C) (some dd)) ∧ XcC K C ∧ PySem.W.findIn K (.ref C) f = some none ∧ H1 dd = some (.xd fs) ∧ fs.lookup f = some v ∧ Q v H1
theorem pe_xfld {X : Cx} {K : PySem.W.Frag} {e : Expr} {te : TE} {pos : Pos} {f : Str} (he : PE X e te) (hb : attributeBase e f X.env (eval e X.env) = eval e X.env := by rfl) (hK : X.K = K := by rfl) : PE X (.Attribute e f pos) (tXfld K te f) := by
  subst hK
  refine ⟨fun pins s σ H Q I h => ?_⟩
  refine attr_of hb (thn (he.run pins s σ H _ I h) fun u s1 hh => ?_)
  obtain ⟨x, H1, I1, rx, a, C, dd, fs, v, ex, ea0, T, hno, ea, l, q⟩ := hh
  subst ex
  obtain rfl : u = Value.ref a := rx
  obtain ⟨oe, vs, ha, hz, hd⟩ := erO_at I1.hok ea0
  have hx : ObjOk X.prog X.w H1 s1.heap dd (.xd fs) := I1.hok dd _ ea
  obtain ⟨mA, hns, hr⟩ := hx
  obtain ⟨od, ho, hl⟩ := lookIn_ns hns
  obtain ⟨u, hu, ru⟩ := RelO.some_of (v := v) (o := mA f) (by rw [← l]; exact hr f)
  have J : PySem.W.InstAt s1.heap a oe C (some od) := ⟨ha, hz.1, by unfold PySem.W.notCls; rw [hd] <;> rfl, by rw [hz.2]; exact ho⟩
  exact HandSPX.exc_get I1.kIn J T.ga T.gg T.exC (PySem.W.findObj_own T.hdC hno rfl (by rw [hl, hu])) (handed_of ru) ⟨v, H1, I1.tok _, ru, q⟩
end My
namespace My
open PySem PySem.Spec PyProof.Rows L2
/-! ### model data: values by what they are, lists that may change by their number -/
inductive D where
  | non | bl (b : Bool) | int (i : Int) | str (l : Codes) | ty (n : String)
  | tup (xs : List D) | lst (xs : List D) | wl (xs : List D) | ref (k : Nat)
  | cls (c : String) | obj (c : String) (ns : List String) (xs : List D) | dic (t : Bool) (ks xs : List D) | err (c : String) (ns : List String) (xs : List D)
/-- names of attributes as the program's texts -/
def nmS (ns : List String) : List Str := ns.map Str.ofString
def keyD : D → Option Key
  | .int i => some (.inl i)
  | .str l => some (.inr (SX.S l))
  | _ => none
def keysD : List D → Option (List Key)
  | [] => some []
  | d :: ds => match keyD d, keysD ds with
    | some k, some ks => some (k :: ks)
    | _, _ => none
def keyT : D → Option (List Key)
  | .tup ds => keysD ds
  | _ => none
def keysT : List D → Option (List (List Key))
  | [] => some []
  | d :: ds => match keyT d, keysT ds with
    | some k, some ks => some (k :: ks)
    | _, _ => none
/-- a dict with these keys and values; t: its keys are tuples -/
def dicO (t : Bool) (ks : List D) (vs : List V) : HO := match t with
  | false => .dK (((keysD ks).getD []).zip vs)
  | true => .dT (((keysT ks).getD []).zip vs)
def keysOk (t : Bool) (ks : List D) : Bool := match t with
  | false => (keysD ks).isSome
  | true => (keysT ks).isSome
abbrev AM (A : List Addr) (M : Addr → Prop) : Addr → Prop := fun a => a ∈ A ∨ M a
mutual
def RepD (K : PySem.W.Frag) (A : List Addr) (M : Addr → Prop) (H : Hp) : V → D → Prop
  | v, .non => v = .non
  | v, .bl b => v = .bl b
  | v, .int i => v = .int i
  | v, .str l => v = sv l
  | v, .ty n => v = .ty n
  | v, .tup ds => ∃ p vs, v = .ref p ∧ StM K (AM A M) H p vs ∧ RepL K A M H vs ds
  | v, .lst ds => ∃ p vs, v = .ref p ∧ LtM (AM A M) H p vs ∧ RepL K A M H vs ds
  | v, .wl ds => ∃ p vs, v = .ref p ∧ SqM K (AM A M) H p vs ∧ RepL K A M H vs ds
  | v, .ref k => ∃ a, v = .ref a ∧ A[k]? = some a
  | v, .cls c => v = .ref (He.ga K c)
  | v, .obj c ns ds => ∃ p x vs, v = .ref p ∧ (H p = some (.ins (He.ga K c) x ((nmS ns).zip vs)) ∧ ¬ AM A M p) ∧ ns.length = vs.length ∧ RepL K A M H vs ds
  | v, .dic t ks ds => ∃ p vs, v = .ref p ∧ (H p = some (dicO t ks vs) ∧ ¬ AM A M p) ∧ (ks.length = vs.length ∧ keysOk t ks = true) ∧ RepL K A M H vs ds
  | v, .err c ns ds => ∃ p od vs, v = .ref p ∧ (H p = some (ErO p (.ref (He.ga K c)) od) ∧ ¬ AM A M p) ∧ (∀ q, od = some q → H q = some (.xd ((nmS ns).zip vs)) ∧ ¬ AM A M q) ∧ (od = none → ns = []) ∧ ns.length = vs.length ∧ RepL K A M H vs ds
def RepL (K : PySem.W.Frag) (A : List Addr) (M : Addr → Prop) (H : Hp) : List V → List D → Prop
  | vs, [] => vs = []
  | vs, d :: ds => ∃ v r, vs = v :: r ∧ RepD K A M H v d ∧ RepL K A M H r ds
end
/-- from A, M, H to A', M', H' -/
structure Go (A : List Addr) (M : Addr → Prop) (H : Hp) (A' : List Addr) (M' : Addr → Prop) (H' : Hp) : Prop where
  ix : ∀ (k : Nat) (a : Addr), A[k]? = some a → A'[k]? = some a
  new : ∀ a, AM A' M' a → AM A M a ∨ H a = none
  pr : ∀ a o, ¬ AM A M a → H a = some o → H' a = some o
section
variable {K : PySem.W.Frag} {A A' A2 : List Addr} {M M' M2 : Addr → Prop} {H H' H2 : Hp} {v w : V} {d e : D} {vs ws : List V} {ds es : List D} {a p : Addr} {o : HO}
theorem Go.rd (g : Go A M H A' M' H') (h : Rd H p o ∧ ¬ AM A M p) : Rd H' p o ∧ ¬ AM A' M' p :=
  ⟨h.1.imp (fun z => g.pr _ _ h.2 z) (fun ⟨w, z⟩ => ⟨w, g.pr _ _ h.2 z⟩), rd_lift g.new h.1 h.2⟩
theorem Go.trans (g : Go A M H A' M' H') (f : Go A' M' H' A2 M2 H2) : Go A M H A2 M2 H2 := by
  refine ⟨fun k a h => f.ix k a (g.ix k a h), fun a h => ?_, fun a o h e => ?_⟩
  · rcases f.new a h with h | h
    · exact g.new a h
    · by_cases z : AM A M a
      · exact .inl z
      · cases e : H a with
        | none => exact .inr rfl
        | some o => rw [g.pr a o z e] at h; cases h
  · refine f.pr a o (fun z => ?_) (g.pr a o h e)
    rcases g.new a z with z | z
    · exact h z
    · rw [e] at z; cases z
theorem Go.refl : Go A M H A M H := ⟨fun _ _ h => h, fun _ h => .inl h, fun _ _ _ h => h⟩
mutual
theorem RepD.go (g : Go A M H A' M' H') : ∀ {d : D} {v : V}, RepD K A M H v d → RepD K A' M' H' v d
  | .non, _, h => h
  | .bl _, _, h => h
  | .int _, _, h => h
  | .str _, _, h => h
  | .ty _, _, h => h
  | .tup _, _, ⟨p, vs, e, h, r⟩ => ⟨p, vs, e, h.imp g.rd id, RepL.go g r⟩
  | .lst _, _, ⟨p, vs, e, h, r⟩ => ⟨p, vs, e, ⟨g.pr _ _ h.2 h.1, rd_lift g.new (.inl h.1) h.2⟩, RepL.go g r⟩
  | .wl _, _, ⟨p, vs, e, h, r⟩ => ⟨p, vs, e, h.imp g.rd id, RepL.go g r⟩
  | .ref _, _, ⟨a, e, h⟩ => ⟨a, e, g.ix _ a h⟩
  | .cls _, _, h => h
  | .obj _ _ _, _, ⟨p, x, vs, e, h, l, r⟩ => ⟨p, x, vs, e, ⟨g.pr _ _ h.2 h.1, rd_lift g.new (.inl h.1) h.2⟩, l, RepL.go g r⟩
  | .dic _ _ _, _, ⟨p, vs, e, h, l, r⟩ => ⟨p, vs, e, ⟨g.pr _ _ h.2 h.1, rd_lift g.new (.inl h.1) h.2⟩, l, RepL.go g r⟩
  | .err _ _ _, _, ⟨p, od, vs, e, h, hq, l0, l, r⟩ => ⟨p, od, vs, e, ⟨g.pr _ _ h.2 h.1, rd_lift g.new (.inl h.1) h.2⟩, fun q z => ⟨g.pr _ _ (hq q z).2 (hq q z).1, rd_lift g.new (.inl (hq q z).1) (hq q z).2⟩, l0, l, RepL.go g r⟩
theorem RepL.go (g : Go A M H A' M' H') : ∀ {ds : List D} {vs : List V}, RepL K A M H vs ds → RepL K A' M' H' vs ds
  | [], _, h => h
  | _ :: _, _, ⟨v, r, e, h, t⟩ => ⟨v, r, e, RepD.go g h, RepL.go g t⟩
end
/-! no number of a list in it -/
mutual
def pureD : D → Bool
  | .tup ds => pureL ds
  | .lst ds => pureL ds
  | .wl ds => pureL ds
  | .ref _ => false
  | .obj _ _ ds => pureL ds
  | .dic _ _ ds => pureL ds
  | .err _ _ ds => pureL ds
  | _ => true
def pureL : List D → Bool
  | [] => true
  | d :: ds => pureD d && pureL ds
end
mutual
theorem RepD.goP (hn : ∀ a, AM A' M' a → AM A M a ∨ H a = none) (hp : ∀ a o, ¬ AM A M a → H a = some o → H' a = some o) : ∀ {d : D} {v : V}, pureD d = true → RepD K A M H v d → RepD K A' M' H' v d
  | .non, _, _, h => h
  | .bl _, _, _, h => h
  | .int _, _, _, h => h
  | .str _, _, _, h => h
  | .ty _, _, _, h => h
  | .tup _, _, q, ⟨p, vs, e, h, r⟩ => ⟨p, vs, e, h.imp (fun h => ⟨h.1.imp (fun z => hp _ _ h.2 z) (fun ⟨w, z⟩ => ⟨w, hp _ _ h.2 z⟩), rd_lift hn h.1 h.2⟩) id, RepL.goP hn hp q r⟩
  | .lst _, _, q, ⟨p, vs, e, h, r⟩ => ⟨p, vs, e, ⟨hp _ _ h.2 h.1, rd_lift hn (.inl h.1) h.2⟩, RepL.goP hn hp q r⟩
  | .wl _, _, q, ⟨p, vs, e, h, r⟩ => ⟨p, vs, e, h.imp (fun h => ⟨h.1.imp (fun z => hp _ _ h.2 z) (fun ⟨w, z⟩ => ⟨w, hp _ _ h.2 z⟩), rd_lift hn h.1 h.2⟩) id, RepL.goP hn hp q r⟩
  | .ref _, _, q, _ => nomatch q
  | .cls _, _, _, h => h
  | .obj _ _ _, _, q, ⟨p, x, vs, e, h, l, r⟩ => ⟨p, x, vs, e, ⟨hp _ _ h.2 h.1, rd_lift hn (.inl h.1) h.2⟩, l, RepL.goP hn hp q r⟩
  | .dic _ _ _, _, q, ⟨p, vs, e, h, l, r⟩ => ⟨p, vs, e, ⟨hp _ _ h.2 h.1, rd_lift hn (.inl h.1) h.2⟩, l, RepL.goP hn hp q r⟩
  | .err _ _ _, _, q, ⟨p, od, vs, e, h, hq, l0, l, r⟩ => ⟨p, od, vs, e, ⟨hp _ _ h.2 h.1, rd_lift hn (.inl h.1) h.2⟩, fun q z => ⟨hp _ _ (hq q z).2 (hq q z).1, rd_lift hn (.inl (hq q z).1) (hq q z).2⟩, l0, l, RepL.goP hn hp q r⟩
theorem RepL.goP (hn : ∀ a, AM A' M' a → AM A M a ∨ H a = none) (hp : ∀ a o, ¬ AM A M a → H a = some o → H' a = some o) : ∀ {ds : List D} {vs : List V}, pureL ds = true → RepL K A M H vs ds → RepL K A' M' H' vs ds
  | [], _, _, h => h
  | _ :: _, _, q, ⟨v, r, e, h, t⟩ => ⟨v, r, e, RepD.goP hn hp (Bool.and_eq_true _ _ |>.mp q).1 h, RepL.goP hn hp (Bool.and_eq_true _ _ |>.mp q).2 t⟩
end
theorem RepL.len : ∀ {ds : List D} {vs : List V}, RepL K A M H vs ds → vs.length = ds.length
  | [], _, h => by rw [show _ = [] from h]; rfl
  | _ :: _, _, ⟨v, r, e, h, t⟩ => by rw [e, List.length_cons, List.length_cons, RepL.len t]
theorem RepL.app : ∀ {ds es : List D} {vs ws : List V}, RepL K A M H vs ds → RepL K A M H ws es → RepL K A M H (vs ++ ws) (ds ++ es)
  | [], _, _, _, h, h2 => by rw [show _ = [] from h]; exact h2
  | _ :: _, _, _, _, ⟨v, r, e, h, t⟩, h2 => by rw [e]; exact ⟨v, _, rfl, h, RepL.app t h2⟩
theorem RepL.one (h : RepD K A M H v d) : RepL K A M H [v] [d] := ⟨v, [], rfl, h, rfl⟩
theorem RepL.get : ∀ {ds : List D} {vs : List V} {i : Nat} {d : D}, RepL K A M H vs ds → ds[i]? = some d → ∃ v, vs[i]? = some v ∧ RepD K A M H v d
  | [], _, _, _, _, h => nomatch h
  | _ :: _, _, 0, _, ⟨v, r, e, h, t⟩, h2 => by cases h2; rw [e]; exact ⟨v, rfl, h⟩
  | _ :: _, _, i + 1, _, ⟨v, r, e, h, t⟩, h2 => by rw [e]; exact RepL.get (i := i) t h2
theorem RepL.drop : ∀ {ds : List D} {vs : List V} (n : Nat), RepL K A M H vs ds → RepL K A M H (vs.drop n) (ds.drop n)
  | _, _, 0, h => h
  | [], _, n + 1, h => by rw [show _ = [] from h]; rfl
  | _ :: _, _, n + 1, ⟨v, r, e, h, t⟩ => by rw [e]; exact RepL.drop n t
theorem RepL.take : ∀ {ds : List D} {vs : List V} (n : Nat), RepL K A M H vs ds → RepL K A M H (vs.take n) (ds.take n)
  | _, _, 0, h => rfl
  | [], _, n + 1, h => by rw [show _ = [] from h]; rfl
  | _ :: _, _, n + 1, ⟨v, r, e, h, t⟩ => by rw [e]; exact ⟨v, _, rfl, h, RepL.take n t⟩
theorem RepL.erase : ∀ {ds : List D} {vs : List V} (n : Nat), RepL K A M H vs ds → RepL K A M H (vs.eraseIdx n) (ds.eraseIdx n)
  | [], _, n, h => by rw [show _ = [] from h]; rfl
  | _ :: _, _, 0, ⟨v, r, e, h, t⟩ => by rw [e]; exact t
  | _ :: _, _, n + 1, ⟨v, r, e, h, t⟩ => by rw [e]; exact ⟨v, _, rfl, h, RepL.erase n t⟩
theorem RepL.set : ∀ {ds : List D} {vs : List V} (n : Nat), RepL K A M H vs ds → RepD K A M H v d → RepL K A M H (vs.set n v) (ds.set n d)
  | [], _, n, h, _ => by rw [show _ = [] from h]; rfl
  | _ :: _, _, 0, ⟨v, r, e, h, t⟩, h2 => by rw [e]; exact ⟨_, _, rfl, h2, t⟩
  | _ :: _, _, n + 1, ⟨v, r, e, h, t⟩, h2 => by rw [e]; exact ⟨v, _, rfl, h, RepL.set n t h2⟩
theorem pureL_app : ∀ {ds es : List D}, pureL (ds ++ es) = (pureL ds && pureL es)
  | [], _ => by simp [pureL]
  | d :: ds, es => by rw [List.cons_append, pureL, pureL, pureL_app, Bool.and_assoc]
theorem pureL_all : ∀ {ds : List D}, pureL ds = ds.all pureD
  | [] => rfl
  | d :: ds => by rw [pureL, List.all_cons, pureL_all]
/-! ### the store -/
inductive Cell where
  | lst (ds : List D) | obj (c : String) (ns : List String) (ds : List D) | dic (t : Bool) (ks ds : List D)
abbrev Store := List Cell
def cellDs : Cell → List D
  | .lst ds => ds
  | .obj _ _ ds => ds
  | .dic _ _ ds => ds
def cellHO (K : PySem.W.Frag) (x : Addr) (vs : List V) : Cell → HO
  | .lst _ => .lst vs
  | .obj c ns _ => .ins (He.ga K c) x ((nmS ns).zip vs)
  | .dic t ks _ => dicO t ks vs
def cellGood : Cell → Bool
  | .lst _ => true
  | .obj _ ns ds => ns.length == ds.length
  | .dic t ks ds => ks.length == ds.length && keysOk t ks
def CellRep (K : PySem.W.Frag) (A : List Addr) (M : Addr → Prop) (H : Hp) (a : Addr) (c : Cell) : Prop := ∃ x vs, H a = some (cellHO K x vs c) ∧ RepL K A M H vs (cellDs c) ∧ pureL (cellDs c) = true ∧ cellGood c = true
structure Ok (K : PySem.W.Frag) (A : List Addr) (M : Addr → Prop) (μ : Store) (H : Hp) : Prop where
  nd : A.Nodup
  len : A.length = μ.length
  rep : ∀ (k : Nat) a c, A[k]? = some a → μ[k]? = some c → CellRep K A M H a c
  al : ∀ a, M a → H a ≠ none
  dis : ∀ a ∈ A, ¬ M a
variable {μ μ' μ2 : Store} {k : Nat}
theorem Ok.cell (h : Ok K A M μ H) (ha : a ∈ A) : ∃ (k : Nat) (c : Cell), A[k]? = some a ∧ μ[k]? = some c ∧ CellRep K A M H a c := by
  obtain ⟨k, hk⟩ := List.getElem?_of_mem ha
  have hl := (List.getElem?_eq_some_iff.mp hk).1
  have hm : μ[k]? = some (μ[k]'(h.len ▸ hl)) := List.getElem?_eq_getElem _
  exact ⟨k, _, hk, hm, h.rep k a _ hk hm⟩
theorem Ok.alive (h : Ok K A M μ H) (ha : AM A M a) : H a ≠ none := by
  rcases ha with ha | ha
  · obtain ⟨k, c, _, _, hc⟩ := h.cell ha
    obtain ⟨x, vs, e, _⟩ := hc
    rw [e]
    exact fun z => nomatch z
  · exact h.al a ha
theorem Ok.fresh (h : Ok K A M μ H) (hp : H p = none) : ¬ AM A M p := fun z => h.alive z hp
/-- what comes: the numbers stay, new ones are new, all else stays -/
structure Fut (A : List Addr) (H : Hp) (A' : List Addr) (H' : Hp) : Prop where
  pre : ∃ B, A' = A ++ B
  new : ∀ a ∈ A', a ∈ A ∨ H a = none
  pr : ∀ a o, a ∉ A → H a = some o → H' a = some o
theorem Fut.go (f : Fut A H A' H') : Go A M H A' M H' := by
  refine ⟨fun k a h => ?_, fun a h => ?_, fun a o h e => f.pr a o (fun z => h (.inl z)) e⟩
  · obtain ⟨B, rfl⟩ := f.pre
    rw [List.getElem?_append_left (List.getElem?_eq_some_iff.mp h).1]
    exact h
  · rcases h with h | h
    · exact (f.new a h).imp .inl id
    · exact .inl (.inr h)
theorem Fut.refl : Fut A H A H := ⟨⟨[], by simp⟩, fun a h => .inl h, fun _ _ _ h => h⟩
theorem Fut.trans (g : Fut A H A' H') (f : Fut A' H' A2 H2) : Fut A H A2 H2 := by
  refine ⟨?_, fun a h => ?_, fun a o h e => ?_⟩
  · obtain ⟨B, rfl⟩ := g.pre
    obtain ⟨C, rfl⟩ := f.pre
    exact ⟨B ++ C, by simp⟩
  · rcases f.new a h with h | h
    · exact g.new a h
    · by_cases z : a ∈ A
      · exact .inl z
      · cases e : H a with
        | none => exact .inr rfl
        | some o => rw [g.pr a o z e] at h; cases h
  · refine f.pr a o (fun z => ?_) (g.pr a o h e)
    rcases g.new a z with z | z
    · exact h z
    · rw [e] at z; cases z
theorem Fut.ex (e : Evl.Ex H H') : Fut A H A H' := ⟨⟨[], by simp⟩, fun a h => .inl h, fun a o _ h => e a o h⟩
theorem Ok.ex (h : Ok K A M μ H) (e : Evl.Ex H H') : Ok K A M μ H' := by
  refine ⟨h.nd, h.len, fun k a c h1 h2 => ?_, fun a m => ?_, h.dis⟩
  · obtain ⟨x, vs, e1, e2, e3⟩ := h.rep k a _ h1 h2
    exact ⟨x, vs, e a _ e1, RepL.go (Fut.ex e).go e2, e3⟩
  · cases q : H a with
    | none => exact absurd q (h.al a m)
    | some o => rw [e a o q]; exact fun z => nomatch z
theorem Ok.new (h : Ok K A M μ H) (hp : H p = none) : Ok K A M μ (upd H p o) := h.ex (Evl.Ex.new hp)
theorem Fut.newO (hp : H p = none) : Fut A H A (upd H p o) := Fut.ex (Evl.Ex.new hp)
/-- a new thing that is numbered; c, o: what it is -/
theorem Ok.cellNew {c : Cell} {x : Addr} (h : Ok K A M μ H) (hp : H p = none) (r : RepL K A M H vs (cellDs c)) (q : pureL (cellDs c) = true) (gd : cellGood c = true) : Ok K (A ++ [p]) M (μ ++ [c]) (upd H p (cellHO K x vs c)) ∧ Fut A H (A ++ [p]) (upd H p (cellHO K x vs c)) := by
  have f : Fut A H (A ++ [p]) (upd H p (cellHO K x vs c)) := ⟨⟨[p], rfl⟩, fun a ha => (List.mem_append.mp ha).imp id fun z => by rw [List.mem_singleton.mp z]; exact hp, fun a o _ e => by
    have ne : a ≠ p := fun z => by rw [z, hp] at e; cases e
    rw [upd_ne ne]
    exact e⟩
  refine ⟨⟨?_, by simp [h.len], fun k a c' h1 h2 => ?_, fun a m => ?_, fun a ha m => ?_⟩, f⟩
  · rw [List.nodup_append]
    refine ⟨h.nd, by simp, fun a ha b hb => ?_⟩
    rw [List.mem_singleton.mp hb]
    exact fun z => h.alive (.inl ha) (by rw [z]; exact hp)
  · by_cases hk : k < A.length
    · rw [List.getElem?_append_left hk] at h1
      rw [List.getElem?_append_left (h.len ▸ hk)] at h2
      obtain ⟨y, ws, e1, e2, e3⟩ := h.rep k a _ h1 h2
      have ne : a ≠ p := fun z => by rw [z, hp] at e1; cases e1
      exact ⟨y, ws, by rw [upd_ne ne]; exact e1, RepL.go f.go e2, e3⟩
    · rw [List.getElem?_append_right (by omega)] at h1
      rw [List.getElem?_append_right (by rw [← h.len]; omega), ← h.len] at h2
      cases hj : k - A.length with
      | zero =>
        rw [hj] at h1 h2
        cases h1; cases h2
        exact ⟨x, vs, upd_same, RepL.go f.go r, q, gd⟩
      | succ j =>
        rw [hj] at h1
        cases h1
  · by_cases z : a = p
    · rw [z, upd_same]; exact fun z => nomatch z
    · rw [upd_ne z]; exact h.al a m
  · rcases List.mem_append.mp ha with z | z
    · exact h.dis a z m
    · rw [List.mem_singleton.mp z] at m
      exact h.al p m hp
/-- a numbered thing changes -/
theorem Ok.cellSet {c : Cell} {x : Addr} (h : Ok K A M μ H) (ha : A[k]? = some a) (r : RepL K A M H vs (cellDs c)) (q : pureL (cellDs c) = true) (gd : cellGood c = true) : Ok K A M (μ.set k c) (upd H a (cellHO K x vs c)) ∧ Fut A H A (upd H a (cellHO K x vs c)) := by
  have hA : a ∈ A := List.mem_of_getElem? ha
  have f : Fut A H A (upd H a (cellHO K x vs c)) := ⟨⟨[], by simp⟩, fun a h => .inl h, fun b o hb e => by
    have ne : b ≠ a := fun z => hb (z ▸ hA)
    rw [upd_ne ne]
    exact e⟩
  refine ⟨⟨h.nd, by rw [List.length_set]; exact h.len, fun j b c' h1 h2 => ?_, fun b m => ?_, h.dis⟩, f⟩
  · by_cases e : k = j
    · subst e
      rw [ha] at h1
      cases h1
      have hl := (List.getElem?_eq_some_iff.mp ha).1
      rw [List.getElem?_set_self (h.len ▸ hl)] at h2
      cases h2
      exact ⟨x, vs, upd_same, RepL.go f.go r, q, gd⟩
    · rw [List.getElem?_set_ne e] at h2
      obtain ⟨y, ws, e1, e2, e3⟩ := h.rep j b _ h1 h2
      have ne : b ≠ a := fun z => by
        subst z
        have l1 := (List.getElem?_eq_some_iff.mp ha).1
        have l2 := (List.getElem?_eq_some_iff.mp h1).1
        have ee : A[k] = A[j] := by rw [(List.getElem?_eq_some_iff.mp ha).2, (List.getElem?_eq_some_iff.mp h1).2]
        rcases Nat.lt_or_gt_of_ne e with z | z
        · exact List.pairwise_iff_getElem.mp h.nd k j l1 l2 z ee
        · exact List.pairwise_iff_getElem.mp h.nd j k l2 l1 z ee.symm
      exact ⟨y, ws, by rw [upd_ne ne]; exact e1, RepL.go f.go e2, e3⟩
  · by_cases z : b = a
    · rw [z, upd_same]; exact fun z => nomatch z
    · rw [upd_ne z]; exact h.al b m
/-- the last numbers are given up -/
theorem Ok.cellDrop {B : List Addr} (h : Ok K (A ++ B) M μ H) : Ok K A M (μ.take A.length) H := by
  have hn : ∀ a, AM A M a → AM (A ++ B) M a ∨ H a = none := fun a z => .inl (z.imp (fun z => List.mem_append_left _ z) id)
  have hl := h.len
  rw [List.length_append] at hl
  refine ⟨(List.nodup_append.mp h.nd).1, by rw [List.length_take]; omega, fun k a c h1 h2 => ?_, h.al, fun a ha => h.dis a (List.mem_append_left _ ha)⟩
  have hk := (List.getElem?_eq_some_iff.mp h1).1
  rw [List.getElem?_take_of_lt hk] at h2
  have h3 := h.rep k a c (by rw [List.getElem?_append_left hk]; exact h1) h2
  obtain ⟨x, vs, e1, e2, e3⟩ := h3
  exact ⟨x, vs, e1, RepL.goP hn (fun _ _ _ z => z) e3.1 e2, e3⟩
/-- avoiding more, avoiding less -/
theorem Ok.less (h : Ok K A M' μ H) (hm : ∀ a, M a → M' a) : Ok K A M μ H := by
  have g : Go A M' H A M H := ⟨fun _ _ h => h, fun a z => .inl (z.imp id (hm a)), fun _ _ _ h => h⟩
  refine ⟨h.nd, h.len, fun k a c h1 h2 => ?_, fun a m => h.al a (hm a m), fun a ha m => h.dis a ha (hm a m)⟩
  obtain ⟨x, vs, e1, e2, e3⟩ := h.rep k a _ h1 h2
  exact ⟨x, vs, e1, RepL.go g e2, e3⟩
/-! ### the names -/
abbrev En := List (Option D)
def RepO (K : PySem.W.Frag) (A : List Addr) (M : Addr → Prop) (H : Hp) : Option V → Option D → Prop
  | none, none => True
  | some v, some d => RepD K A M H v d
  | _, _ => False
abbrev EnvRep (K : PySem.W.Frag) (A : List Addr) (M : Addr → Prop) (H : Hp) (σ : L2.St) (env : En) : Prop := Paired (RepO K A M H) σ env
variable {σ : L2.St} {env : En}
theorem RepO.go (g : Go A M H A' M' H') {x : Option V} {y : Option D} (h : RepO K A M H x y) : RepO K A' M' H' x y := by
  cases x <;> cases y
  · trivial
  · exact h
  · exact h
  · exact RepD.go g h
theorem EnvRep.go (g : Go A M H A' M' H') (h : EnvRep K A M H σ env) : EnvRep K A' M' H' σ env := Paired_imp (fun _ _ z => z.go g) h
theorem EnvRep.get (h : EnvRep K A M H σ env) {i : Nat} (e : env[i]? = some (some d)) : ∃ v, σ[i]? = some (some v) ∧ RepD K A M H v d := by
  rcases paired_get h i with ⟨x, y, h1, h2, h3⟩ | ⟨_, h2⟩
  · rw [e] at h2
    cases h2
    cases x with
    | none => exact h3.elim
    | some v => exact ⟨v, h1, h3⟩
  · rw [e] at h2; cases h2
theorem paired_set {α β : Type} {F : α → β → Prop} {x : α} {y : β} (h : F x y) : ∀ {xs : List α} {ys : List β} (i : Nat), Paired F xs ys → Paired F (xs.set i x) (ys.set i y)
  | _, _, _, .nil => .nil
  | _, _, 0, .cons _ b => .cons h b
  | _, _, i + 1, .cons a b => .cons a (paired_set h i b)
theorem EnvRep.set (h : EnvRep K A M H σ env) (i : Nat) (r : RepD K A M H v d) : EnvRep K A M H (σ.set i (some v)) (env.set i (some d)) := paired_set (F := RepO K A M H) (x := some v) (y := some d) r i h
def wipeE (env : En) : List Nat → En
  | [] => env
  | v :: vs => (wipeE env vs).set v none
theorem EnvRep.wipe (h : EnvRep K A M H σ env) : ∀ vs : List Nat, EnvRep K A M H (wipe σ vs) (wipeE env vs)
  | [] => h
  | v :: vs => paired_set (F := RepO K A M H) (x := none) (y := none) trivial v (EnvRep.wipe h vs)
theorem wipe_get (σ : L2.St) : ∀ (vs : List Nat) (i : Nat), (L2.wipe σ vs)[i]? = if i ∈ vs then (if i < σ.length then some none else none) else σ[i]?
  | [], i => by simp [L2.wipe]
  | v :: vs, i => by
    unfold L2.wipe
    rw [List.getElem?_set, wipe_get σ vs i, wipe_length]
    by_cases h : v = i
    · subst h
      simp
    · rw [if_neg h]
      have : (i ∈ v :: vs) ↔ i ∈ vs := by simp [Ne.symm h]
      simp only [this]
theorem wipe_wipe_set {vs : List Nat} {j : Nat} {o : Option V} (h : j ∈ vs) : L2.wipe (σ.set j o) vs = L2.wipe σ vs := by
  apply List.ext_getElem?
  intro i
  rw [wipe_get, wipe_get, List.length_set]
  by_cases hi : i ∈ vs
  · rw [if_pos hi, if_pos hi]
  · rw [if_neg hi, if_neg hi, List.getElem?_set_ne]
    exact fun z => hi (z ▸ h)
theorem wipe_idem {vs : List Nat} : L2.wipe (L2.wipe σ vs) vs = L2.wipe σ vs := by
  apply List.ext_getElem?
  intro i
  rw [wipe_get, wipe_get, wipe_length]
  by_cases hi : i ∈ vs
  · rw [if_pos hi, if_pos hi]
  · rw [if_neg hi]
end
end My
namespace My
open PySem PySem.Spec PyProof.Rows L2
/-! ### results -/
inductive Rs (α : Type) where
  | ok (a : α) (μ : Store) | no | rz (c : String) (ns : List String) (xs : List D) (μ : Store)
def Rs.bind {α β : Type} (r : Rs α) (f : α → Store → Rs β) : Rs β := match r with
  | .ok a μ => f a μ
  | .no => .no
  | .rz c ns xs μ => .rz c ns xs μ
@[simp] theorem Rs.bind_k {α β : Type} {a : α} {μ : Store} {f : α → Store → Rs β} : (Rs.ok a μ).bind f = f a μ := rfl
@[simp] theorem Rs.bind_n {α β : Type} {f : α → Store → Rs β} : (Rs.no : Rs α).bind f = .no := rfl
theorem Rs.bind_ok {α β : Type} {r : Rs α} {f : α → Store → Rs β} {b : β} {μ : Store} (h : r.bind f = .ok b μ) : ∃ a μ1, r = .ok a μ1 ∧ f a μ1 = .ok b μ := by
  cases r with
  | ok a μ1 => exact ⟨a, μ1, rfl, h⟩
  | no => cases h
  | rz => cases h
def Rs.of {α : Type} (o : Option α) (μ : Store) : Rs α := match o with
  | some a => .ok a μ
  | none => .no
@[simp] theorem Rs.of_s {α : Type} {a : α} {μ : Store} : Rs.of (some a) μ = .ok a μ := rfl
@[simp] theorem Rs.of_n {α : Type} {μ : Store} : Rs.of (none : Option α) μ = .no := rfl
theorem Rs.of_ok {α : Type} {o : Option α} {a : α} {μ μ' : Store} (h : Rs.of o μ = .ok a μ') : o = some a ∧ μ' = μ := by
  cases o with
  | some b => cases h; exact ⟨rfl, rfl⟩
  | none => cases h
abbrev Mo (α : Type) := En → Store → Rs α
def MP (M : Addr → Prop) (p : Addr) : Addr → Prop := fun a => M a ∨ a = p
/-! ### a reading does what the model does -/
def EvD (K : PySem.W.Frag) (te : TE) (m : Mo D) : Prop := ∀ (A : List Addr) (M : Addr → Prop) (μ : Store) (H : Hp) (σ : L2.St) (env : En) (d : D) (μ' : Store), Ok K A M μ H → EnvRep K A M H σ env → m env μ = .ok d μ' →
  ∀ Q : VK, (∀ v H' A', Fut A H A' H' → Ok K A' M μ' H' → RepD K A' M H' v d → Q v H') → te σ H Q
def EvB (K : PySem.W.Frag) (tt : TT) (m : Mo Bool) : Prop := ∀ (A : List Addr) (M : Addr → Prop) (μ : Store) (H : Hp) (σ : L2.St) (env : En) (b : Bool) (μ' : Store), Ok K A M μ H → EnvRep K A M H σ env → m env μ = .ok b μ' →
  ∀ Q : Bool → Hp → Prop, (∀ H' A', Fut A H A' H' → Ok K A' M μ' H' → Q b H') → tt σ H Q
def EvS (K : PySem.W.Frag) (ta : TA) (m : Mo (List D)) : Prop := ∀ (A : List Addr) (M : Addr → Prop) (μ : Store) (H : Hp) (σ : L2.St) (env : En) (ds : List D) (μ' : Store), Ok K A M μ H → EnvRep K A M H σ env → m env μ = .ok ds μ' →
  ∀ Q : List V → Hp → Prop, (∀ vs H' A', Fut A H A' H' → Ok K A' M μ' H' → RepL K A' M H' vs ds → Q vs H') → ta σ H Q
/-- a new list -/
def EvC (K : PySem.W.Frag) (te : TE) (m : Mo (List D)) : Prop := ∀ (A : List Addr) (M : Addr → Prop) (μ : Store) (H : Hp) (σ : L2.St) (env : En) (ds : List D) (μ' : Store), Ok K A M μ H → EnvRep K A M H σ env → m env μ = .ok ds μ' →
  ∀ Q : VK, (∀ p vs H' A', Fut A H A' H' → Ok K A' (MP M p) μ' H' → H' p = some (.lst vs) → H p = none → RepL K A' (MP M p) H' vs ds → Q (.ref p) H') → te σ H Q
def EvO2 (K : PySem.W.Frag) (to : TO) (m : Mo (Option Int)) : Prop := ∀ (A : List Addr) (M : Addr → Prop) (μ : Store) (H : Hp) (σ : L2.St) (env : En) (b : Option Int) (μ' : Store), Ok K A M μ H → EnvRep K A M H σ env → m env μ = .ok b μ' →
  ∀ Q : Option Int → Hp → Prop, (∀ H' A', Fut A H A' H' → Ok K A' M μ' H' → Q b H') → to σ H Q
section
variable {K : PySem.W.Frag} {te ta tb tc : TE} {m ma mb mc : Mo D} {tt tu : TT} {mt mu : Mo Bool} {tas : TA} {mas : Mo (List D)} {cm : Mo (List D)}
/-! ### values -/
def mVar (i : Nat) : Mo D := fun env μ => match env[i]? with
  | some (some d) => .ok d μ
  | _ => .no
@[simp] theorem mVar_eq {i : Nat} {env : En} {μ : Store} {d : D} (h : env[i]? = some (some d)) : mVar i env μ = .ok d μ := by unfold mVar; rw [h]
def mC {α : Type} (d : α) : Mo α := fun _ μ => .ok d μ
@[simp] theorem mC_eq {α : Type} {d : α} {env : En} {μ : Store} : mC d env μ = .ok d μ := rfl
theorem d_var (i : Nat) : EvD K (tVar i) (mVar i) := fun A M μ H σ env d μ' ok en h Q f => by
  unfold mVar at h
  split at h
  · rename_i e
    cases h
    obtain ⟨v, h1, h2⟩ := en.get e
    exact ⟨v, h1, f v H A .refl ok h2⟩
  · cases h
theorem d_c {v : V} {d : D} (h : ∀ A M H, RepD K A M H v d) : EvD K (tC v) (mC d) := fun A M μ H σ env d' μ' ok en e Q f => by
  cases e
  exact f v H A .refl ok (h A M H)
theorem d_int {i : Int} : EvD K (tC (.int i)) (mC (.int i)) := d_c fun _ _ _ => rfl
theorem d_bl {b : Bool} : EvD K (tC (.bl b)) (mC (.bl b)) := d_c fun _ _ _ => rfl
theorem d_non : EvD K (tC .non) (mC .non) := d_c fun _ _ _ => rfl
theorem d_str {x : Str} (l : Codes) (h : x = SX.S l) : EvD K (tC (.str x)) (mC (.str l)) := d_c fun _ _ _ => by rw [h]; rfl
theorem d_ty {n : String} : EvD K (tC (.ty n)) (mC (.ty n)) := d_c fun _ _ _ => rfl
/-- a tuple of texts of the module's top -/
theorem repL_strs {A : List Addr} {M : Addr → Prop} {H : Hp} : ∀ (xs : List Codes), RepL K A M H (xs.map sv) (xs.map D.str)
  | [] => rfl
  | x :: xs => ⟨sv x, _, rfl, rfl, repL_strs xs⟩
theorem d_gtup {a : Addr} {vs : List V} (xs : List Codes) (h : ∀ H, SqT K H a vs) (e : vs = xs.map sv) : EvD K (tC (.ref a)) (mC (.tup (xs.map D.str))) := d_c fun _ _ _ => ⟨a, xs.map sv, rfl, .inr (e ▸ h), repL_strs xs⟩
/-! ### lists, new ones -/
def mFz (m : Mo (List D)) : Mo D := fun env μ => (m env μ).bind fun ds μ1 => .ok (.lst ds) μ1
def mCell (m : Mo (List D)) : Mo D := fun env μ => (m env μ).bind fun ds μ1 => if pureL ds = true then .ok (.ref μ1.length) (μ1 ++ [.lst ds]) else .no
theorem go_less {A : List Addr} {M : Addr → Prop} {H : Hp} {p : Addr} : Go A (MP M p) H A M H := ⟨fun _ _ h => h, fun a z => .inl (z.imp id .inl), fun _ _ _ h => h⟩
theorem go_cell {A : List Addr} {M : Addr → Prop} {H : Hp} {p : Addr} : Go A (MP M p) H (A ++ [p]) M H := ⟨fun k a h => by rw [List.getElem?_append_left (List.getElem?_eq_some_iff.mp h).1]; exact h, fun a z => by
  rcases z with z | z
  · rcases List.mem_append.mp z with z | z
    · exact .inl (.inl z)
    · exact .inl (.inr (.inr (List.mem_singleton.mp z)))
  · exact .inl (.inr (.inl z)), fun _ _ _ h => h⟩
theorem d_fz (h : EvC K te cm) : EvD K te (mFz cm) := fun A M μ H σ env d μ' ok en e Q f => by
  obtain ⟨ds, μ1, e1, e2⟩ := Rs.bind_ok e
  cases e2
  refine h A M μ H σ env _ _ ok en e1 Q fun p vs H' A' fu ok' hp h0 r => ?_
  refine f _ H' A' fu (ok'.less fun a m => .inl m) ⟨p, vs, rfl, ⟨hp, fun z => ?_⟩, RepL.go go_less r⟩
  rcases z with z | z
  · exact ok'.dis p z (.inr rfl)
  · exact ok.al p z h0
theorem Ok.thaw {A : List Addr} {M : Addr → Prop} {μ : Store} {H : Hp} {p x : Addr} {vs : List V} {c : Cell} (ok : Ok K A (MP M p) μ H) (hp : H p = some (cellHO K x vs c)) (hm : ¬ M p) (r : RepL K A (MP M p) H vs (cellDs c)) (q : pureL (cellDs c) = true) (gd : cellGood c = true) : Ok K (A ++ [p]) M (μ ++ [c]) H := by
  have hpA : p ∉ A := fun z => ok.dis p z (.inr rfl)
  refine ⟨?_, by simp [ok.len], fun k a c h1 h2 => ?_, fun a m => ok.al a (.inl m), fun a ha m => ?_⟩
  · rw [List.nodup_append]
    refine ⟨ok.nd, by simp, fun a ha b hb => ?_⟩
    rw [List.mem_singleton.mp hb]
    exact fun z => hpA (z ▸ ha)
  · by_cases hk : k < A.length
    · rw [List.getElem?_append_left hk] at h1
      rw [List.getElem?_append_left (ok.len ▸ hk)] at h2
      obtain ⟨y, ws, e1, e2, e3⟩ := ok.rep k a _ h1 h2
      exact ⟨y, ws, e1, RepL.go go_cell e2, e3⟩
    · rw [List.getElem?_append_right (by omega)] at h1
      rw [List.getElem?_append_right (by rw [← ok.len]; omega), ← ok.len] at h2
      cases hj : k - A.length with
      | zero =>
        rw [hj] at h1 h2
        cases h1; cases h2
        exact ⟨x, vs, hp, RepL.go go_cell r, q, gd⟩
      | succ j =>
        rw [hj] at h1
        cases h1
  · rcases List.mem_append.mp ha with z | z
    · exact ok.dis a z (.inl m)
    · rw [List.mem_singleton.mp z] at m
      exact hm m
theorem d_cell (h : EvC K te cm) : EvD K te (mCell cm) := fun A M μ H σ env d μ' ok en e Q f => by
  obtain ⟨ds, μ1, e1, e2⟩ := Rs.bind_ok e
  split at e2
  · rename_i hq
    cases e2
    refine h A M μ H σ env ds μ1 ok en e1 Q fun p vs H' A' fu ok' hp h0 r => ?_
    refine f _ H' (A' ++ [p]) ⟨?_, fun a ha => ?_, fu.pr⟩ (ok'.thaw (x := 0) (c := .lst ds) hp (fun z => ok.al p z h0) r hq rfl) ⟨p, rfl, ?_⟩
    · obtain ⟨B, rfl⟩ := fu.pre
      exact ⟨B ++ [p], by simp⟩
    · rcases List.mem_append.mp ha with z | z
      · exact fu.new a z
      · rw [List.mem_singleton.mp z]
        exact .inr h0
    · rw [← ok'.len]
      simp
  · cases e2
/-! ### arguments, displays -/
def mNil : Mo (List D) := fun _ μ => .ok [] μ
def mCons (a : Mo D) (r : Mo (List D)) : Mo (List D) := fun env μ => (a env μ).bind fun d μ1 => (r env μ1).bind fun ds μ2 => .ok (d :: ds) μ2
@[simp] theorem mNil_eq {env : En} {μ : Store} : mNil env μ = .ok [] μ := rfl
@[simp] theorem mCons_eq {env : En} {μ μ1 : Store} {d : D} (h : ma env μ = .ok d μ1) : mCons ma mas env μ = (mas env μ1).bind fun ds μ2 => .ok (d :: ds) μ2 := by unfold mCons; rw [h]; rfl
theorem s_nil : EvS K tNil mNil := fun A M μ H σ env ds μ' ok en e Q f => by
  cases e
  exact f [] H A .refl ok rfl
theorem s_cons (h : EvD K ta ma) (hr : EvS K tas mas) : EvS K (tCons ta tas) (mCons ma mas) := fun A M μ H σ env ds μ' ok en e Q f => by
  obtain ⟨d, μ1, e1, e2⟩ := Rs.bind_ok e
  obtain ⟨r, μ2, e3, e4⟩ := Rs.bind_ok e2
  cases e4
  refine h A M μ H σ env d μ1 ok en e1 _ fun v H1 A1 f1 ok1 r1 => ?_
  refine hr A1 M μ1 H1 σ env r _ ok1 (en.go f1.go) e3 _ fun vs H2 A2 f2 ok2 r2 => ?_
  exact f _ H2 A2 (f1.trans f2) ok2 ⟨v, vs, rfl, RepD.go f2.go r1, r2⟩
def mTup (m : Mo (List D)) : Mo D := fun env μ => (m env μ).bind fun ds μ1 => if ds.length ≤ 100000 then .ok (.tup ds) μ1 else .no
theorem d_tup (h : EvS K tas mas) : EvD K (tTup tas) (mTup mas) := fun A M μ H σ env d μ' ok en e Q f => by
  obtain ⟨ds, μ1, e1, e2⟩ := Rs.bind_ok e
  split at e2
  · rename_i hl
    cases e2
    refine h A M μ H σ env _ _ ok en e1 _ fun vs H1 A1 f1 ok1 r1 => ⟨by rw [r1.len]; exact Evl.sz_of hl, fun p hp => ?_⟩
    exact f _ _ A1 (f1.trans (.newO hp)) (ok1.new hp) ⟨p, vs, rfl, .of upd_same (ok1.fresh hp), RepL.go (Fut.newO hp).go r1⟩
  · cases e2
/-- a heap with a new list -/
theorem newC {A A1 : List Addr} {M : Addr → Prop} {μ : Store} {H H1 : Hp} {p : Addr} {vs : List V} {ds : List D} {Q : VK} (fu : Fut A H A1 H1) (ok : Ok K A1 M μ H1) (h0 : Ok K A M μ0 H) (hp : H1 p = none) (r : RepL K A1 M H1 vs ds)
    (f : ∀ p vs H' A', Fut A H A' H' → Ok K A' (MP M p) μ H' → H' p = some (.lst vs) → H p = none → RepL K A' (MP M p) H' vs ds → Q (.ref p) H') : Q (.ref p) (upd H1 p (.lst vs)) := by
  have hpA := ok.fresh hp
  have g : Go A1 M H1 A1 (MP M p) (upd H1 p (.lst vs)) := ⟨fun _ _ h => h, fun a z => by
    rcases z with z | z | z
    · exact .inl (.inl z)
    · exact .inl (.inr z)
    · rw [z]; exact .inr hp, fun a o hm e => by
    have ne : a ≠ p := fun z => by rw [z, hp] at e; cases e
    rw [upd_ne ne]; exact e⟩
  refine f p vs _ A1 (fu.trans (.newO hp)) ⟨ok.nd, ok.len, fun k a c h1 h2 => ?_, fun a m => ?_, fun a ha m => ?_⟩ upd_same ?_ (RepL.go g r)
  · obtain ⟨y, ws, e1, e2, e3⟩ := ok.rep k a _ h1 h2
    have ne : a ≠ p := fun z => by rw [z, hp] at e1; cases e1
    exact ⟨y, ws, by rw [upd_ne ne]; exact e1, RepL.go g e2, e3⟩
  · by_cases z : a = p
    · rw [z, upd_same]; exact fun z => nomatch z
    · rw [upd_ne z]; exact ok.al a (m.resolve_right z)
  · rcases m with m | m
    · exact ok.dis a ha m
    · exact hpA (.inl (m ▸ ha))
  · cases e : H p with
    | none => rfl
    | some o =>
      by_cases z : p ∈ A
      · obtain ⟨B, rfl⟩ := fu.pre
        exact absurd (.inl (List.mem_append_left _ z)) hpA
      · rw [fu.pr p o z e] at hp; cases hp
def mLst (m : Mo (List D)) : Mo (List D) := fun env μ => (m env μ).bind fun ds μ1 => if ds.length ≤ 100000 then .ok ds μ1 else .no
theorem c_lst (h : EvS K tas mas) : EvC K (tLst tas) (mLst mas) := fun A M μ H σ env ds' μ' ok en e Q f => by
  obtain ⟨ds, μ1, e1, e2⟩ := Rs.bind_ok e
  split at e2
  · rename_i hl
    cases e2
    refine h A M μ H σ env _ _ ok en e1 _ fun vs H1 A1 f1 ok1 r1 => ⟨by rw [r1.len]; exact Evl.sz_of hl, fun p hp => ?_⟩
    exact newC f1 ok1 ok hp r1 f
  · cases e2
/-! ### tests -/
def mTest (m : Mo D) : Mo Bool := fun env μ => (m env μ).bind fun d μ1 => match d with
  | .bl b => .ok b μ1
  | _ => .no
theorem b_test (h : EvD K te m) : EvB K (tTest te) (mTest m) := fun A M μ H σ env b μ' ok en e Q f => by
  obtain ⟨d, μ1, e1, e2⟩ := Rs.bind_ok e
  split at e2
  · cases e2
    exact h A M μ H σ env _ _ ok en e1 _ fun v H1 A1 f1 ok1 r1 => ⟨b, r1, f H1 A1 f1 ok1⟩
  · cases e2
theorem b_B (h : EvD K te m) : EvB K (tB te) (mTest m) := b_test h
def mAnd (a b : Mo Bool) : Mo Bool := fun env μ => (a env μ).bind fun c μ1 => if c = true then b env μ1 else .ok false μ1
def mOr (a b : Mo Bool) : Mo Bool := fun env μ => (a env μ).bind fun c μ1 => if c = true then .ok true μ1 else b env μ1
def mNot (a : Mo Bool) : Mo Bool := fun env μ => (a env μ).bind fun c μ1 => .ok (!c) μ1
theorem b_and (h : EvB K tt mt) (h2 : EvB K tu mu) : EvB K (tAnd tt tu) (mAnd mt mu) := fun A M μ H σ env b μ' ok en e Q f => by
  obtain ⟨c, μ1, e1, e2⟩ := Rs.bind_ok e
  refine h A M μ H σ env c μ1 ok en e1 _ fun H1 A1 f1 ok1 => ?_
  cases c with
  | true => exact h2 A1 M μ1 H1 σ env b μ' ok1 (en.go f1.go) e2 Q fun H2 A2 f2 ok2 => f H2 A2 (f1.trans f2) ok2
  | false => cases e2; exact f H1 A1 f1 ok1
theorem b_or (h : EvB K tt mt) (h2 : EvB K tu mu) : EvB K (tOr tt tu) (mOr mt mu) := fun A M μ H σ env b μ' ok en e Q f => by
  obtain ⟨c, μ1, e1, e2⟩ := Rs.bind_ok e
  refine h A M μ H σ env c μ1 ok en e1 _ fun H1 A1 f1 ok1 => ?_
  cases c with
  | true => cases e2; exact f H1 A1 f1 ok1
  | false => exact h2 A1 M μ1 H1 σ env b μ' ok1 (en.go f1.go) e2 Q fun H2 A2 f2 ok2 => f H2 A2 (f1.trans f2) ok2
theorem b_not (h : EvB K tt mt) : EvB K (tNot tt) (mNot mt) := fun A M μ H σ env b μ' ok en e Q f => by
  obtain ⟨c, μ1, e1, e2⟩ := Rs.bind_ok e
  cases e2
  exact h A M μ H σ env c _ ok en e1 _ fun H1 A1 f1 ok1 => f H1 A1 f1 ok1
theorem b_yes : EvB K tYes (mC true) := fun A M μ H σ env b μ' ok en e Q f => by
  cases e
  exact f H A .refl ok
def mAndV (a b : Mo D) : Mo D := fun env μ => (a env μ).bind fun c μ1 => match c with
  | .bl true => b env μ1
  | .bl false => .ok (.bl false) μ1
  | _ => .no
def mOrV (a b : Mo D) : Mo D := fun env μ => (a env μ).bind fun c μ1 => match c with
  | .bl true => .ok (.bl true) μ1
  | .bl false => b env μ1
  | _ => .no
def mNotV (a : Mo D) : Mo D := fun env μ => (a env μ).bind fun c μ1 => match c with
  | .bl c => .ok (.bl (!c)) μ1
  | _ => .no
theorem d_andV (h : EvD K ta ma) (h2 : EvD K tb mb) : EvD K (tAndV ta tb) (mAndV ma mb) := fun A M μ H σ env d μ' ok en e Q f => by
  obtain ⟨c, μ1, e1, e2⟩ := Rs.bind_ok e
  refine h A M μ H σ env c μ1 ok en e1 _ fun v H1 A1 f1 ok1 r1 => ?_
  split at e2
  · exact ⟨true, r1, h2 A1 M μ1 H1 σ env d μ' ok1 (en.go f1.go) e2 Q fun v H2 A2 f2 ok2 r2 => f v H2 A2 (f1.trans f2) ok2 r2⟩
  · cases e2
    exact ⟨false, r1, f _ H1 A1 f1 ok1 rfl⟩
  · cases e2
theorem d_orV (h : EvD K ta ma) (h2 : EvD K tb mb) : EvD K (tOrV ta tb) (mOrV ma mb) := fun A M μ H σ env d μ' ok en e Q f => by
  obtain ⟨c, μ1, e1, e2⟩ := Rs.bind_ok e
  refine h A M μ H σ env c μ1 ok en e1 _ fun v H1 A1 f1 ok1 r1 => ?_
  split at e2
  · cases e2
    exact ⟨true, r1, f _ H1 A1 f1 ok1 rfl⟩
  · exact ⟨false, r1, h2 A1 M μ1 H1 σ env d μ' ok1 (en.go f1.go) e2 Q fun v H2 A2 f2 ok2 r2 => f v H2 A2 (f1.trans f2) ok2 r2⟩
  · cases e2
theorem d_notV (h : EvD K ta ma) : EvD K (tNotV ta) (mNotV ma) := fun A M μ H σ env d μ' ok en e Q f => by
  obtain ⟨c, μ1, e1, e2⟩ := Rs.bind_ok e
  refine h A M μ H σ env c μ1 ok en e1 _ fun v H1 A1 f1 ok1 r1 => ?_
  split at e2
  · cases e2
    exact ⟨_, r1, f _ H1 A1 f1 ok1 rfl⟩
  · cases e2
def mIf {α : Type} (t : Mo Bool) (a b : Mo α) : Mo α := fun env μ => (t env μ).bind fun c μ1 => if c = true then a env μ1 else b env μ1
theorem d_if (h : EvB K tt mt) (h1 : EvD K ta ma) (h2 : EvD K tb mb) : EvD K (tIf tt ta tb) (mIf mt ma mb) := fun A M μ H σ env d μ' ok en e Q f => by
  obtain ⟨c, μ1, e1, e2⟩ := Rs.bind_ok e
  refine h A M μ H σ env c μ1 ok en e1 _ fun H1 A1 f1 ok1 => ?_
  cases c with
  | true => exact h1 A1 M μ1 H1 σ env d μ' ok1 (en.go f1.go) e2 Q fun v H2 A2 f2 ok2 r2 => f v H2 A2 (f1.trans f2) ok2 r2
  | false => exact h2 A1 M μ1 H1 σ env d μ' ok1 (en.go f1.go) e2 Q fun v H2 A2 f2 ok2 r2 => f v H2 A2 (f1.trans f2) ok2 r2
theorem c_if {ca cb : Mo (List D)} (h : EvB K tt mt) (h1 : EvC K ta ca) (h2 : EvC K tb cb) : EvC K (tIf tt ta tb) (mIf mt ca cb) := fun A M μ H σ env d μ' ok en e Q f => by
  obtain ⟨c, μ1, e1, e2⟩ := Rs.bind_ok e
  refine h A M μ H σ env c μ1 ok en e1 _ fun H1 A1 f1 ok1 => ?_
  have back : ∀ {p : Addr}, ¬ AM A1 M p → H1 p = none → H p = none := fun {p} hpA hp => by
    cases e : H p with
    | none => rfl
    | some o =>
      by_cases z : p ∈ A
      · obtain ⟨B, rfl⟩ := f1.pre
        exact absurd (.inl (List.mem_append_left _ z)) hpA
      · rw [f1.pr p o z e] at hp; cases hp
  cases c with
  | true => exact h1 A1 M μ1 H1 σ env d μ' ok1 (en.go f1.go) e2 Q fun p vs H2 A2 f2 ok2 hp h0 r2 => f p vs H2 A2 (f1.trans f2) ok2 hp (back (ok1.fresh h0) h0) r2
  | false => exact h2 A1 M μ1 H1 σ env d μ' ok1 (en.go f1.go) e2 Q fun p vs H2 A2 f2 ok2 hp h0 r2 => f p vs H2 A2 (f1.trans f2) ok2 hp (back (ok1.fresh h0) h0) r2
/-! ### operators by values -/
def OpD (K : PySem.W.Frag) (r : R2) (f : Store → D → D → Option D) : Prop := ∀ (A : List Addr) (M : Addr → Prop) (μ : Store) (H : Hp) (x y : V) (dx dy d : D), Ok K A M μ H → RepD K A M H x dx → RepD K A M H y dy → f μ dx dy = some d →
  ∀ Q : VK, (∀ z H', Evl.Ex H H' → RepD K A M H' z d → Q z H') → r x y H Q
def mOp (f : Store → D → D → Option D) (a b : Mo D) : Mo D := fun env μ => (a env μ).bind fun x μ1 => (b env μ1).bind fun y μ2 => Rs.of (f μ2 x y) μ2
theorem d_op {r : R2} {g : Store → D → D → Option D} (ho : OpD K r g) (h : EvD K ta ma) (h2 : EvD K tb mb) : EvD K (tOp r ta tb) (mOp g ma mb) := fun A M μ H σ env d μ' ok en e Q f => by
  obtain ⟨x, μ1, e1, e2⟩ := Rs.bind_ok e
  obtain ⟨y, μ2, e3, e4⟩ := Rs.bind_ok e2
  obtain ⟨e5, rfl⟩ := Rs.of_ok e4
  refine h A M μ H σ env x μ1 ok en e1 _ fun v H1 A1 f1 ok1 r1 => h2 A1 M μ1 H1 σ env y _ ok1 (en.go f1.go) e3 _ fun w H2 A2 f2 ok2 r2 => ?_
  exact ho A2 M _ H2 v w x y d ok2 (RepD.go f2.go r1) r2 e5 Q fun z H3 ex r3 => f z H3 A2 ((f1.trans f2).trans (.ex ex)) (ok2.ex ex) r3
/-- two comparisons -/
def mChain (f g : Store → D → D → Option D) (a b c : Mo D) : Mo D := fun env μ => (a env μ).bind fun x μ1 => (b env μ1).bind fun y μ2 => match f μ2 x y with
  | some (.bl true) => (c env μ2).bind fun z μ3 => Rs.of (g μ3 y z) μ3
  | some (.bl false) => .ok (.bl false) μ2
  | _ => .no
theorem d_chain {r r' : R2} {g g' : Store → D → D → Option D} (ho : OpD K r g) (ho' : OpD K r' g') (h : EvD K ta ma) (h2 : EvD K tb mb) (h3 : EvD K tc mc) : EvD K (tChain r r' ta tb tc) (mChain g g' ma mb mc) := fun A M μ H σ env d μ' ok en e Q f => by
  obtain ⟨x, μ1, e1, e2⟩ := Rs.bind_ok e
  obtain ⟨y, μ2, e3, e4⟩ := Rs.bind_ok e2
  refine h A M μ H σ env x μ1 ok en e1 _ fun v H1 A1 f1 ok1 r1 => h2 A1 M μ1 H1 σ env y _ ok1 (en.go f1.go) e3 _ fun w H2 A2 f2 ok2 r2 => ?_
  split at e4
  · rename_i eg
    refine ho A2 M _ H2 v w x y _ ok2 (RepD.go f2.go r1) r2 eg _ fun z H3 ex r3 => ⟨true, r3, ?_⟩
    obtain ⟨z2, μ3, e5, e6⟩ := Rs.bind_ok e4
    obtain ⟨e7, rfl⟩ := Rs.of_ok e6
    have f3 : Fut A H A2 H3 := (f1.trans f2).trans (.ex ex)
    refine h3 A2 M μ2 H3 σ env z2 _ (ok2.ex ex) (en.go f3.go) e5 _ fun u H4 A4 f4 ok4 r4 => ?_
    exact ho' A4 M _ H4 w u y z2 d ok4 (RepD.go ((Fut.ex ex).trans f4).go r2) r4 e7 Q fun z H5 ex5 r5 => f z H5 A4 ((f3.trans f4).trans (.ex ex5)) (ok4.ex ex5) r5
  · rename_i eg
    cases e4
    refine ho A2 M _ H2 v w x y _ ok2 (RepD.go f2.go r1) r2 eg _ fun z H3 ex r3 => ⟨false, r3, ?_⟩
    exact f _ H3 A2 ((f1.trans f2).trans (.ex ex)) (ok2.ex ex) rfl
  · cases e4
/-- calls by values -/
def CbD (K : PySem.W.Frag) (r : List V → Hp → VK → Prop) (f : Store → List D → Option D) : Prop := ∀ (A : List Addr) (M : Addr → Prop) (μ : Store) (H : Hp) (vs : List V) (ds : List D) (d : D), Ok K A M μ H → RepL K A M H vs ds → f μ ds = some d →
  ∀ Q : VK, (∀ z H', Evl.Ex H H' → RepD K A M H' z d → Q z H') → r vs H Q
def mCb (f : Store → List D → Option D) (m : Mo (List D)) : Mo D := fun env μ => (m env μ).bind fun ds μ1 => Rs.of (f μ1 ds) μ1
theorem d_cb {r : List V → Hp → VK → Prop} {g : Store → List D → Option D} (ho : CbD K r g) (h : EvS K tas mas) : EvD K (tCB r tas) (mCb g mas) := fun A M μ H σ env d μ' ok en e Q f => by
  obtain ⟨ds, μ1, e1, e2⟩ := Rs.bind_ok e
  obtain ⟨e5, rfl⟩ := Rs.of_ok e2
  exact h A M μ H σ env ds _ ok en e1 _ fun vs H1 A1 f1 ok1 r1 => ho A1 M _ H1 vs ds d ok1 r1 e5 Q fun z H3 ex r3 => f z H3 A1 (f1.trans (.ex ex)) (ok1.ex ex) r3
/-- calls that make a list -/
def CcD (K : PySem.W.Frag) (r : List V → Hp → VK → Prop) (f : Store → List D → Option (List D)) : Prop := ∀ (A : List Addr) (M : Addr → Prop) (μ : Store) (H : Hp) (vs : List V) (ds es : List D), Ok K A M μ H → RepL K A M H vs ds → f μ ds = some es →
  ∀ Q : VK, (∀ p ws, H p = none → RepL K A M H ws es → Q (.ref p) (upd H p (.lst ws))) → r vs H Q
def mCc (f : Store → List D → Option (List D)) (m : Mo (List D)) : Mo (List D) := fun env μ => (m env μ).bind fun ds μ1 => Rs.of (f μ1 ds) μ1
theorem c_cb {r : List V → Hp → VK → Prop} {g : Store → List D → Option (List D)} (ho : CcD K r g) (h : EvS K tas mas) : EvC K (tCB r tas) (mCc g mas) := fun A M μ H σ env d μ' ok en e Q f => by
  obtain ⟨ds, μ1, e1, e2⟩ := Rs.bind_ok e
  obtain ⟨e5, rfl⟩ := Rs.of_ok e2
  exact h A M μ H σ env ds _ ok en e1 _ fun vs H1 A1 f1 ok1 r1 => ho A1 M _ H1 vs ds d ok1 r1 e5 Q fun p ws hp r3 => newC f1 ok1 ok hp r3 f
/-- methods of texts -/
def MtD (K : PySem.W.Frag) (r : V → List V → Hp → VK → Prop) (f : Store → D → List D → Option D) : Prop := ∀ (A : List Addr) (M : Addr → Prop) (μ : Store) (H : Hp) (x : V) (dx : D) (vs : List V) (ds : List D) (d : D), Ok K A M μ H → RepD K A M H x dx → RepL K A M H vs ds → f μ dx ds = some d →
  ∀ Q : VK, (∀ z H', Evl.Ex H H' → RepD K A M H' z d → Q z H') → r x vs H Q
def isStr : D → Bool
  | .str _ => true
  | _ => false
def mBm (f : Store → D → List D → Option D) (o : Mo D) (m : Mo (List D)) : Mo D := fun env μ => (o env μ).bind fun x μ0 => if isStr x = true then (m env μ0).bind fun ds μ1 => Rs.of (f μ1 x ds) μ1 else .no
theorem tyV_str {x : D} {v : V} {A : List Addr} {M : Addr → Prop} {H : Hp} (h : isStr x = true) (r : RepD K A M H v x) : tyV K "str" v H := by
  cases x <;> cases h
  rw [show v = _ from r]
  rfl
theorem d_bm {r : V → List V → Hp → VK → Prop} {g : Store → D → List D → Option D} (ho : MtD K r g) (h0 : EvD K te m) (h : EvS K tas mas) : EvD K (tBM K "str" r te tas) (mBm g m mas) := fun A M μ H σ env d μ' ok en e Q f => by
  obtain ⟨x, μ0, e0, e⟩ := Rs.bind_ok e
  split at e
  · rename_i hs
    obtain ⟨ds, μ1, e1, e2⟩ := Rs.bind_ok e
    obtain ⟨e5, rfl⟩ := Rs.of_ok e2
    refine h0 A M μ H σ env x μ0 ok en e0 _ fun v H0 A0 f0 ok0 r0 => ⟨tyV_str hs r0, ?_⟩
    exact h A0 M μ0 H0 σ env ds _ ok0 (en.go f0.go) e1 _ fun vs H1 A1 f1 ok1 r1 => ho A1 M _ H1 v x vs ds d ok1 (RepD.go f1.go r0) r1 e5 Q fun z H3 ex r3 => f z H3 A1 ((f0.trans f1).trans (.ex ex)) (ok1.ex ex) r3
  · cases e
theorem d_bm0 {r : V → List V → Hp → VK → Prop} {g : Store → D → List D → Option D} (ho : MtD K r g) (h0 : EvD K te m) : EvD K (tBM0 K "str" r te) (mBm g m mNil) := fun A M μ H σ env d μ' ok en e Q f => by
  obtain ⟨x, μ0, e0, e⟩ := Rs.bind_ok e
  split at e
  · rename_i hs
    obtain ⟨ds, μ1, e1, e2⟩ := Rs.bind_ok e
    cases e1
    obtain ⟨e5, rfl⟩ := Rs.of_ok e2
    refine h0 A M μ H σ env x _ ok en e0 _ fun v H0 A0 f0 ok0 r0 => ⟨tyV_str hs r0, ?_⟩
    exact ho A0 M _ H0 v x [] [] d ok0 r0 rfl e5 Q fun z H3 ex r3 => f z H3 A0 (f0.trans (.ex ex)) (ok0.ex ex) r3
  · cases e
/-- .. that make a list -/
def McD (K : PySem.W.Frag) (r : V → List V → Hp → VK → Prop) (f : Store → D → List D → Option (List D)) : Prop := ∀ (A : List Addr) (M : Addr → Prop) (μ : Store) (H : Hp) (x : V) (dx : D) (vs : List V) (ds es : List D), Ok K A M μ H → RepD K A M H x dx → RepL K A M H vs ds → f μ dx ds = some es →
  ∀ Q : VK, (∀ p ws, H p = none → RepL K A M H ws es → Q (.ref p) (upd H p (.lst ws))) → r x vs H Q
def mBc (f : Store → D → List D → Option (List D)) (o : Mo D) (m : Mo (List D)) : Mo (List D) := fun env μ => (o env μ).bind fun x μ0 => if isStr x = true then (m env μ0).bind fun ds μ1 => Rs.of (f μ1 x ds) μ1 else .no
theorem c_bm {r : V → List V → Hp → VK → Prop} {g : Store → D → List D → Option (List D)} (ho : McD K r g) (h0 : EvD K te m) (h : EvS K tas mas) : EvC K (tBM K "str" r te tas) (mBc g m mas) := fun A M μ H σ env d μ' ok en e Q f => by
  obtain ⟨x, μ0, e0, e⟩ := Rs.bind_ok e
  split at e
  · rename_i hs
    obtain ⟨ds, μ1, e1, e2⟩ := Rs.bind_ok e
    obtain ⟨e5, rfl⟩ := Rs.of_ok e2
    refine h0 A M μ H σ env x μ0 ok en e0 _ fun v H0 A0 f0 ok0 r0 => ⟨tyV_str hs r0, ?_⟩
    exact h A0 M μ0 H0 σ env ds _ ok0 (en.go f0.go) e1 _ fun vs H1 A1 f1 ok1 r1 => ho A1 M _ H1 v x vs ds d ok1 (RepD.go f1.go r0) r1 e5 Q fun p ws hp r3 => newC (f0.trans f1) ok1 ok hp r3 f
  · cases e
/-! ### slices -/
def mNoP : Mo (Option Int) := fun _ μ => .ok none μ
def mPart (m : Mo D) : Mo (Option Int) := fun env μ => (m env μ).bind fun d μ1 => match d with
  | .int i => .ok (some i) μ1
  | _ => .no
theorem o_none : EvO2 K tNoPart mNoP := fun A M μ H σ env b μ' ok en e Q f => by
  cases e
  exact f H A .refl ok
theorem o_some (h : EvD K te m) : EvO2 K (tPart te) (mPart m) := fun A M μ H σ env b μ' ok en e Q f => by
  obtain ⟨d, μ1, e1, e2⟩ := Rs.bind_ok e
  split at e2
  · cases e2
    exact h A M μ H σ env _ _ ok en e1 _ fun v H1 A1 f1 ok1 r1 => ⟨_, r1, f H1 A1 f1 ok1⟩
  · cases e2
def SlD (K : PySem.W.Frag) (r : V → Option Int → Option Int → Hp → VK → Prop) (f : Store → D → Option Int → Option Int → Option D) : Prop := ∀ (A : List Addr) (M : Addr → Prop) (μ : Store) (H : Hp) (x : V) (dx : D) (lo hi : Option Int) (d : D), Ok K A M μ H → RepD K A M H x dx → f μ dx lo hi = some d →
  ∀ Q : VK, (∀ z H', Evl.Ex H H' → RepD K A M H' z d → Q z H') → r x lo hi H Q
def mSl (f : Store → D → Option Int → Option Int → Option D) (m : Mo D) (lo hi : Mo (Option Int)) : Mo D := fun env μ => (m env μ).bind fun x μ0 => (lo env μ0).bind fun l μ1 => (hi env μ1).bind fun h μ2 => Rs.of (f μ2 x l h) μ2
theorem d_sl {tl th : TO} {ml mh : Mo (Option Int)} {r : V → Option Int → Option Int → Hp → VK → Prop} {g : Store → D → Option Int → Option Int → Option D} (ho : SlD K r g) (h : EvD K te m) (hl : EvO2 K tl ml) (hh : EvO2 K th mh) : EvD K (tSl r te tl th) (mSl g m ml mh) := fun A M μ H σ env d μ' ok en e Q f => by
  obtain ⟨x, μ0, e0, e⟩ := Rs.bind_ok e
  obtain ⟨l, μ1, e1, e⟩ := Rs.bind_ok e
  obtain ⟨u, μ2, e2, e⟩ := Rs.bind_ok e
  obtain ⟨e5, rfl⟩ := Rs.of_ok e
  refine h A M μ H σ env x μ0 ok en e0 _ fun v H0 A0 f0 ok0 r0 => hl A0 M μ0 H0 σ env l μ1 ok0 (en.go f0.go) e1 _ fun H1 A1 f1 ok1 => hh A1 M μ1 H1 σ env u _ ok1 (en.go (f0.trans f1).go) e2 _ fun H2 A2 f2 ok2 => ?_
  exact ho A2 M _ H2 v x l u d ok2 (RepD.go (f1.trans f2).go r0) e5 Q fun z H3 ex r3 => f z H3 A2 (((f0.trans f1).trans f2).trans (.ex ex)) (ok2.ex ex) r3
end
end My
namespace My
open PySem PySem.Spec PyProof.Rows L2
/-! ### == of model data -/
mutual
def D.beq : D → D → Bool
  | .non, .non => true
  | .bl a, .bl b => a == b
  | .int a, .int b => a == b
  | .str a, .str b => a == b
  | .ty a, .ty b => a == b
  | .tup a, .tup b => D.beqL a b
  | .lst a, .lst b => D.beqL a b
  | .wl a, .wl b => D.beqL a b
  | .ref a, .ref b => a == b
  | .cls a, .cls b => a == b
  | .obj a b c, .obj d e f => (a == d && b == e) && D.beqL c f
  | .dic a b c, .dic d e f => (a == d && D.beqL b e) && D.beqL c f
  | .err a b c, .err d e f => (a == d && b == e) && D.beqL c f
  | _, _ => false
def D.beqL : List D → List D → Bool
  | [], [] => true
  | a :: as, b :: bs => D.beq a b && D.beqL as bs
  | _, _ => false
end
mutual
theorem D.beq_eq : ∀ {a b : D}, D.beq a b = true → a = b
  | .non, b, h => by cases b <;> first | rfl | cases h
  | .bl a, b, h => by cases b <;> first | cases h; done | (rw [beq_iff_eq.mp (show (_ == _) = true from h)])
  | .int a, b, h => by cases b <;> first | cases h; done | (rw [beq_iff_eq.mp (show (_ == _) = true from h)])
  | .str a, b, h => by cases b <;> first | cases h; done | (rw [beq_iff_eq.mp (show (_ == _) = true from h)])
  | .ty a, b, h => by cases b <;> first | cases h; done | (rw [beq_iff_eq.mp (show (_ == _) = true from h)])
  | .tup a, b, h => by cases b <;> first | cases h; done | (rw [D.beqL_eq (show D.beqL _ _ = true from h)])
  | .lst a, b, h => by cases b <;> first | cases h; done | (rw [D.beqL_eq (show D.beqL _ _ = true from h)])
  | .wl a, b, h => by cases b <;> first | cases h; done | (rw [D.beqL_eq (show D.beqL _ _ = true from h)])
  | .ref a, b, h => by cases b <;> first | cases h; done | (rw [beq_iff_eq.mp (show (_ == _) = true from h)])
  | .cls a, b, h => by cases b <;> first | cases h; done | (rw [beq_iff_eq.mp (show (_ == _) = true from h)])
  | .obj a a2 a3, b, h => by
    cases b with
    | obj b b2 b3 =>
      obtain ⟨h1, h2⟩ := (Bool.and_eq_true _ _).mp (show ((a == b && a2 == b2) && D.beqL a3 b3) = true from h)
      obtain ⟨h3, h4⟩ := (Bool.and_eq_true _ _).mp h1
      rw [beq_iff_eq.mp h3, beq_iff_eq.mp h4, D.beqL_eq h2]
    | _ => cases h
  | .dic a a2 a3, b, h => by
    cases b with
    | dic b b2 b3 =>
      obtain ⟨h1, h2⟩ := (Bool.and_eq_true _ _).mp (show ((a == b && D.beqL a2 b2) && D.beqL a3 b3) = true from h)
      obtain ⟨h3, h4⟩ := (Bool.and_eq_true _ _).mp h1
      rw [beq_iff_eq.mp h3, D.beqL_eq h4, D.beqL_eq h2]
    | _ => cases h
  | .err a a2 a3, b, h => by
    cases b with
    | err b b2 b3 =>
      obtain ⟨h1, h2⟩ := (Bool.and_eq_true _ _).mp (show ((a == b && a2 == b2) && D.beqL a3 b3) = true from h)
      obtain ⟨h3, h4⟩ := (Bool.and_eq_true _ _).mp h1
      rw [beq_iff_eq.mp h3, beq_iff_eq.mp h4, D.beqL_eq h2]
    | _ => cases h
theorem D.beqL_eq : ∀ {a b : List D}, D.beqL a b = true → a = b
  | [], [], _ => rfl
  | [], _ :: _, h => nomatch h
  | _ :: _, [], h => nomatch h
  | a :: as, b :: bs, h => by
    have h := (Bool.and_eq_true _ _).mp h
    rw [D.beq_eq h.1, D.beqL_eq h.2]
end
mutual
theorem D.beq_refl : ∀ (a : D), D.beq a a = true
  | .non => rfl
  | .bl a => beq_self_eq_true a
  | .int a => beq_self_eq_true a
  | .str a => beq_self_eq_true a
  | .ty a => beq_self_eq_true a
  | .tup a => D.beqL_refl a
  | .lst a => D.beqL_refl a
  | .wl a => D.beqL_refl a
  | .ref a => beq_self_eq_true a
  | .cls a => beq_self_eq_true a
  | .obj a b c => by
    show ((a == a && b == b) && D.beqL c c) = true
    rw [beq_self_eq_true, beq_self_eq_true, D.beqL_refl c]; rfl
  | .dic a b c => by
    show ((a == a && D.beqL b b) && D.beqL c c) = true
    rw [beq_self_eq_true, D.beqL_refl b, D.beqL_refl c]; rfl
  | .err a b c => by
    show ((a == a && b == b) && D.beqL c c) = true
    rw [beq_self_eq_true, beq_self_eq_true, D.beqL_refl c]; rfl
theorem D.beqL_refl : ∀ (a : List D), D.beqL a a = true
  | [] => rfl
  | a :: as => (Bool.and_eq_true _ _).mpr ⟨D.beq_refl a, D.beqL_refl as⟩
end
/-! ### statements -/
inductive Ro where
  | nx (env : En) (μ : Store) | rt (d : D) (μ : Store) | bk (env : En) (μ : Store) | ct (env : En) (μ : Store) | no | rz (c : String) (ns : List String) (xs : List D) (env : En) (μ : Store)
abbrev MS := En → Store → Ro
/-- an error in the air -/
def RepX (K : PySem.W.Frag) (A : List Addr) (M : Addr → Prop) (H : Hp) (c : String) (ns : List String) (ds : List D) (cls : Value) (od : Option Addr) : Prop :=
  cls = .ref (He.ga K c) ∧ ∃ vs, (∀ q, od = some q → H q = some (.xd ((nmS ns).zip vs)) ∧ ¬ AM A M q) ∧ (od = none → ns = []) ∧ ns.length = vs.length ∧ RepL K A M H vs ds
def PostR (K : PySem.W.Frag) (W : Option WX) (A : List Addr) (M : Addr → Prop) (H : Hp) (c : String) (ns : List String) (ds : List D) (env' : En) (μ' : Store) : Prop := match W with
  | none => False
  | some W => ∀ σ' H' A' cls od, Fut A H A' H' → Ok K A' M μ' H' → EnvRep K A' M H' σ' env' → RepX K A' M H' c ns ds cls od → W cls od σ' H'
theorem PostR.mono {K : PySem.W.Frag} {W : Option WX} {A A' : List Addr} {M : Addr → Prop} {H H' : Hp} {c : String} {ns : List String} {ds : List D} {env' : En} {μ' : Store} (f : Fut A H A' H') (h : PostR K W A M H c ns ds env' μ') : PostR K W A' M H' c ns ds env' μ' := by
  cases W with
  | none => exact h
  | some W => exact fun σ2 H2 A2 cls od f2 => h σ2 H2 A2 cls od (f.trans f2)
def Post (K : PySem.W.Frag) (W : Option WX) (A : List Addr) (M : Addr → Prop) (H : Hp) (E : Ends) : Ro → Prop
  | .nx env' μ' => ∀ σ' H' A', Fut A H A' H' → Ok K A' M μ' H' → EnvRep K A' M H' σ' env' → E.nx σ' H'
  | .rt d μ' => ∀ v H' A', Fut A H A' H' → Ok K A' M μ' H' → RepD K A' M H' v d → E.rt v H'
  | .bk env' μ' => ∀ σ' H' A', Fut A H A' H' → Ok K A' M μ' H' → EnvRep K A' M H' σ' env' → E.bk σ' H'
  | .ct env' μ' => ∀ σ' H' A', Fut A H A' H' → Ok K A' M μ' H' → EnvRep K A' M H' σ' env' → E.ct σ' H'
  | .no => False
  | .rz c ns ds env' μ' => PostR K W A M H c ns ds env' μ'
def StD (K : PySem.W.Frag) (W : Option WX) (ts : TS) (m : MS) : Prop := ∀ (A : List Addr) (M : Addr → Prop) (μ : Store) (H : Hp) (σ : L2.St) (env : En) (E : Ends), Ok K A M μ H → EnvRep K A M H σ env → Post K W A M H E (m env μ) → ts E σ H
section
variable {K : PySem.W.Frag} {W : Option WX} {te ta tb tc : TE} {m ma mb mc : Mo D} {tt tu : TT} {mt mu : Mo Bool} {tas : TA} {mas : Mo (List D)} {cm : Mo (List D)} {t1 t2 t3 : TS} {s1 s2 s3 : MS} {A A' : List Addr} {M : Addr → Prop} {H H' : Hp} {E : Ends} {r : Ro}
theorem Post.mono (f : Fut A H A' H') (h : Post K W A M H E r) : Post K W A' M H' E r := by
  cases r with
  | nx env μ => exact fun σ2 H2 A2 f2 => h σ2 H2 A2 (f.trans f2)
  | rt d μ => exact fun v H2 A2 f2 => h v H2 A2 (f.trans f2)
  | bk env μ => exact fun σ2 H2 A2 f2 => h σ2 H2 A2 (f.trans f2)
  | ct env μ => exact fun σ2 H2 A2 f2 => h σ2 H2 A2 (f.trans f2)
  | no => exact h
  | rz c ns ds env μ => exact PostR.mono f h
def sNext : MS := fun env μ => .nx env μ
def sSeq (a b : MS) : MS := fun env μ => match a env μ with
  | .nx e m => b e m
  | r => r
@[simp] theorem sNext_eq {env : En} {μ : Store} : sNext env μ = .nx env μ := rfl
theorem t_next : StD K W tNext sNext := fun A M μ H σ env E ok en p => p σ H A .refl ok en
theorem t_seq (h1 : StD K W t1 s1) (h2 : StD K W t2 s2) : StD K W (tSeq t1 t2) (sSeq s1 s2) := fun A M μ H σ env E ok en p => by
  refine h1 A M μ H σ env { E with nx := t2 E } ok en ?_
  unfold sSeq at p
  cases h : s1 env μ with
  | nx e m =>
    rw [h] at p
    exact fun σ2 H2 A2 f2 ok2 en2 => h2 A2 M m H2 σ2 e E ok2 en2 (Post.mono f2 p)
  | rt d m => rw [h] at p; exact p
  | bk e m => rw [h] at p; exact p
  | ct e m => rw [h] at p; exact p
  | no => rw [h] at p; exact p
  | rz c ns ds e m => rw [h] at p; exact p
def sRet (m : Mo D) : MS := fun env μ => match m env μ with
  | .ok d μ' => .rt d μ'
  | _ => .no
theorem t_ret (h : EvD K te m) : StD K W (tRet te) (sRet m) := fun A M μ H σ env E ok en p => by
  unfold sRet at p
  cases e : m env μ with
  | ok d μ' => rw [e] at p; exact h A M μ H σ env d μ' ok en e _ p
  | no => rw [e] at p; exact p.elim
  | rz => rw [e] at p; exact p.elim
theorem t_retN : StD K W tRetN (fun _ μ => .rt .non μ) := fun A M μ H σ env E ok en p => p .non H A .refl ok rfl
def sIf (t : Mo Bool) (a b : MS) : MS := fun env μ => match t env μ with
  | .ok c μ1 => if c = true then a env μ1 else b env μ1
  | _ => .no
theorem t_if (h : EvB K tt mt) (h1 : StD K W t1 s1) (h2 : StD K W t2 s2) : StD K W (tIfS tt t1 t2) (sIf mt s1 s2) := fun A M μ H σ env E ok en p => by
  unfold sIf at p
  cases e : mt env μ with
  | ok c μ1 =>
    rw [e] at p
    refine h A M μ H σ env c μ1 ok en e _ fun H1 A1 f1 ok1 => ?_
    cases c with
    | true => exact h1 A1 M μ1 H1 σ env E ok1 (en.go f1.go) (Post.mono f1 p)
    | false => exact h2 A1 M μ1 H1 σ env E ok1 (en.go f1.go) (Post.mono f1 p)
  | no => rw [e] at p; exact p.elim
  | rz => rw [e] at p; exact p.elim
def sDrop (m : Mo D) : MS := fun env μ => match m env μ with
  | .ok _ μ' => .nx env μ'
  | _ => .no
theorem t_drop (h : EvD K te m) : StD K W (tDrop te) (sDrop m) := fun A M μ H σ env E ok en p => by
  unfold sDrop at p
  cases e : m env μ with
  | ok d μ' => rw [e] at p; exact h A M μ H σ env d μ' ok en e _ fun v H1 A1 f1 ok1 _ => p σ H1 A1 f1 ok1 (en.go f1.go)
  | no => rw [e] at p; exact p.elim
  | rz => rw [e] at p; exact p.elim
/-! ### targets -/
abbrev Tg := D → En → Option En
def GD (K : PySem.W.Frag) (g : TG) (js : List Nat) (tg : Tg) : Prop := ∀ (A : List Addr) (M : Addr → Prop) (H : Hp) (v : V) (d : D) (σ : L2.St) (env env' : En), EnvRep K A M H σ env → RepD K A M H v d → tg d env = some env' →
  ∃ σ', EnvRep K A M H σ' env' ∧ (∀ vs : List Nat, (∀ j ∈ js, j ∈ vs) → wipe σ' vs = wipe σ vs) ∧ ∀ Q : L2.St → Hp → Prop, Q σ' H → g v σ H Q
def GDs (K : PySem.W.Frag) (g : TGs) (js : List Nat) (tg : List D → En → Option En) : Prop := ∀ (A : List Addr) (M : Addr → Prop) (H : Hp) (vs : List V) (ds : List D) (σ : L2.St) (env env' : En), EnvRep K A M H σ env → RepL K A M H vs ds → tg ds env = some env' →
  ∃ σ', EnvRep K A M H σ' env' ∧ (∀ vs : List Nat, (∀ j ∈ js, j ∈ vs) → wipe σ' vs = wipe σ vs) ∧ ∀ Q : L2.St → Hp → Prop, Q σ' H → g vs σ H Q
def tgName (i : Nat) : Tg := fun d env => some (env.set i (some d))
def tgT (n : Nat) (f : List D → En → Option En) : Tg := fun d env => match d with
  | .tup ds => if ds.length = n then f ds env else none
  | _ => none
def tgNil : List D → En → Option En := fun ds env => match ds with
  | [] => some env
  | _ => none
def tgCons (t : Tg) (r : List D → En → Option En) : List D → En → Option En := fun ds env => match ds with
  | d :: ds => (t d env).bind (r ds)
  | [] => none
theorem g_name (i : Nat) : GD K (gName i) [i] (tgName i) := fun A M H v d σ env env' en r e => by
  cases e
  exact ⟨_, en.set i r, fun vs h => wipe_wipe_set (h i (List.mem_singleton.mpr rfl)), fun Q q => q⟩
theorem g_nil : GDs K gNil [] tgNil := fun A M H vs ds σ env env' en r e => by
  cases ds with
  | nil => cases e; exact ⟨σ, en, fun _ _ => rfl, fun Q q => ⟨r, q⟩⟩
  | cons => cases e
theorem g_cons {g : TG} {gs : TGs} {js ks : List Nat} {t : Tg} {tr : List D → En → Option En} (h : GD K g js t) (hr : GDs K gs ks tr) : GDs K (gCons g gs) (js ++ ks) (tgCons t tr) := fun A M H vs ds σ env env' en r e => by
  cases ds with
  | nil => cases e
  | cons d ds =>
    obtain ⟨v, rs, rfl, r1, r2⟩ := r
    obtain ⟨env1, e1, e2⟩ := Option.bind_eq_some_iff.mp (show (t d env).bind (tr ds) = some env' from e)
    obtain ⟨σ1, en1, w1, q1⟩ := h A M H v d σ env env1 en r1 e1
    obtain ⟨σ2, en2, w2, q2⟩ := hr A M H rs ds σ1 env1 env' en1 r2 e2
    exact ⟨σ2, en2, fun vs hv => (w2 vs fun j hj => hv j (List.mem_append_right _ hj)).trans (w1 vs fun j hj => hv j (List.mem_append_left _ hj)), fun Q q => ⟨v, rs, rfl, q1 _ (q2 Q q)⟩⟩
theorem g_tup {gs : TGs} {js : List Nat} {n : Nat} {tr : List D → En → Option En} (h : GDs K gs js tr) : GD K (gTup K n gs) js (tgT n tr) := fun A M H v d σ env env' en r e => by
  cases d <;> try cases e
  rename_i ds
  unfold tgT at e
  dsimp only at e
  split at e
  · rename_i hl
    obtain ⟨p, vs, rfl, hs, r⟩ := r
    obtain ⟨σ1, en1, w1, q1⟩ := h A M H vs ds σ env env' en r e
    exact ⟨σ1, en1, w1, fun Q q => ⟨p, vs, rfl, hs.sq, by rw [r.len]; exact hl, q1 Q q⟩⟩
  · cases e
def sAsg (m : Mo D) (t : Tg) : MS := fun env μ => match m env μ with
  | .ok d μ' => (match t d env with
    | some env' => .nx env' μ'
    | none => .no)
  | _ => .no
theorem t_asg {g : TG} {js : List Nat} {t : Tg} (h : EvD K te m) (hg : GD K g js t) : StD K W (tAsg te g) (sAsg m t) := fun A M μ H σ env E ok en p => by
  unfold sAsg at p
  cases e : m env μ with
  | ok d μ' =>
    rw [e] at p
    dsimp only at p
    refine h A M μ H σ env d μ' ok en e _ fun v H1 A1 f1 ok1 r1 => ?_
    cases e2 : t d env with
    | some env' =>
      rw [e2] at p
      obtain ⟨σ', en', _, q⟩ := hg A1 M H1 v d σ env env' (en.go f1.go) r1 e2
      exact q _ (p σ' H1 A1 f1 ok1 en')
    | none => rw [e2] at p; exact p.elim
  | no => rw [e] at p; exact p.elim
  | rz => rw [e] at p; exact p.elim
def sPar (i j : Nat) (m : Mo (List D)) : MS := fun env μ => match m env μ with
  | .ok [x, y] μ' => .nx ((env.set i (some x)).set j (some y)) μ'
  | _ => .no
theorem t_par {i j : Nat} (h : EvS K tas mas) : StD K W (tPar i j tas) (sPar i j mas) := fun A M μ H σ env E ok en p => by
  unfold sPar at p
  cases e : mas env μ with
  | ok ds μ' =>
    rw [e] at p
    refine h A M μ H σ env ds μ' ok en e _ fun vs H1 A1 f1 ok1 r1 => ?_
    match ds, r1, p with
    | [x, y], r1, p =>
      obtain ⟨v, r', rfl, h1, w, r2, rfl, h2, rfl⟩ := r1
      exact ⟨v, w, rfl, p _ H1 A1 f1 ok1 (((en.go f1.go).set i h1).set j h2)⟩
    | [], _, p => exact p.elim
    | [_], _, p => exact p.elim
    | _ :: _ :: _ :: _, _, p => exact p.elim
  | no => rw [e] at p; exact p.elim
  | rz => rw [e] at p; exact p.elim
/-! ### what is walked -/
abbrev Gd := Option (Nat × List D)
def gdOk : Gd → Store → Bool
  | none, _ => true
  | some (k, ds), μ => match μ[k]? with
    | some (.lst es) => D.beqL es ds
    | _ => false
structure ItOkD (K : PySem.W.Frag) (J : It) (items : List D) (gd : Gd) (A1 : List Addr) (M : Addr → Prop) (H1 : Hp) : Prop where
  go : ∀ i A' M' μ' H', (∀ a, M' a → M a ∨ H1 a = none) → Fut A1 H1 A' H' → Ok K A' M' μ' H' → gdOk gd μ' = true → i < items.length → J.go i H'
  yld : ∀ i A' M' μ' H' x H'' d, (∀ a, M' a → M a ∨ H1 a = none) → Fut A1 H1 A' H' → Ok K A' M' μ' H' → gdOk gd μ' = true → items[i]? = some d → J.yld i H' x H'' → Evl.Ex H' H'' ∧ RepD K A' M' H'' x d
  stop : ∀ A' M' μ' H', (∀ a, M' a → M a ∨ H1 a = none) → Fut A1 H1 A' H' → Ok K A' M' μ' H' → gdOk gd μ' = true → J.stop items.length H'
def ItD (K : PySem.W.Frag) (wi : TI) (m : Mo (List D × Gd)) : Prop := ∀ (A : List Addr) (M : Addr → Prop) (μ : Store) (H : Hp) (σ : L2.St) (env : En) (items : List D) (gd : Gd) (μ' : Store), Ok K A M μ H → EnvRep K A M H σ env → m env μ = .ok (items, gd) μ' →
  ∀ R : It → Hp → Prop, (∀ J H1 A1, Fut A H A1 H1 → Ok K A1 M μ' H1 → ItOkD K J items gd A1 M H1 → R J H1) → wi σ H R
def forGo (gd : Gd) (tg : Tg) (body : MS) : List D → En → Store → Ro
  | [], env, μ => if gdOk gd μ = true then .nx env μ else .no
  | d :: ds, env, μ => if gdOk gd μ = true then (match tg d env with
    | none => .no
    | some env1 => match body env1 μ with
      | .nx e m => forGo gd tg body ds e m
      | .ct e m => forGo gd tg body ds e m
      | .bk e m => .nx e m
      | .rt d m => .rt d m
      | .rz c ns ds e m => .rz c ns ds e m
      | .no => .no) else .no
def sFor (it : Mo (List D × Gd)) (tg : Tg) (body : MS) : MS := fun env μ => match it env μ with
  | .ok (items, gd) μ1 => forGo gd tg body items env μ1
  | _ => .no
theorem t_for {wi : TI} {it : Mo (List D × Gd)} {g : TG} {js : List Nat} {tg : Tg} (hi : ItD K wi it) (hg : GD K g js tg) (hb : StD K W t1 s1) : StD K W (tFor wi g t1) (sFor it tg s1) := fun A M μ H σ env E ok en p => by
  unfold sFor at p
  cases e : it env μ with
  | no => rw [e] at p; exact p.elim
  | rz => rw [e] at p; exact p.elim
  | ok r μ1 =>
    obtain ⟨items, gd⟩ := r
    rw [e] at p
    dsimp only at p
    refine hi A M μ H σ env items gd μ1 ok en e _ fun J H1 A1 f1 ok1 jt => ?_
    have hm : ∀ a, M a → M a ∨ H1 a = none := fun a h => .inl h
    refine ⟨fun i n σ' H' => n = items.length - i ∧ i ≤ items.length ∧ ∃ A' μ' env', Fut A1 H1 A' H' ∧ Ok K A' M μ' H' ∧ EnvRep K A' M H' σ' env' ∧ Post K W A' M H' E (forGo gd tg s1 (items.drop i) env' μ'), ⟨items.length, by simp, Nat.zero_le _, A1, μ1, env, .refl, ok1, en.go f1.go, Post.mono f1 p⟩, ?_⟩
    rintro i n σ' H' ⟨rfl, hle, A', μ', env', fu, ok', en', p'⟩
    by_cases hlt : i < items.length
    · have hget : items[i]? = some items[i] := List.getElem?_eq_getElem hlt
      rw [List.drop_eq_getElem_cons hlt] at p'
      unfold forGo at p'
      split at p'
      · rename_i hgd
        cases e1 : tg items[i] env' with
        | none => rw [e1] at p'; exact p'.elim
        | some env1 =>
          rw [e1] at p'
          dsimp only at p'
          refine .inr ⟨jt.go i A' M μ' H' hm fu ok' hgd hlt, fun σ2 H2 => ∃ A2 μ2 env2, Fut A1 H1 A2 H2 ∧ Ok K A2 M μ2 H2 ∧ EnvRep K A2 M H2 σ2 env2 ∧ Post K W A2 M H2 E (forGo gd tg s1 (items.drop (i + 1)) env2 μ2), fun σ2 H2 hn => ⟨items.length - (i + 1), by omega, rfl, by omega, hn⟩, fun x H'' hy => ?_⟩
          obtain ⟨ex, rx⟩ := jt.yld i A' M μ' H' x H'' _ hm fu ok' hgd hget hy
          have fe : Fut A' H' A' H'' := .ex ex
          obtain ⟨σ3, en3, _, q3⟩ := hg A' M H'' x _ σ' env' env1 (en'.go fe.go) rx e1
          refine q3 _ (hb A' M μ' H'' σ3 env1 _ (ok'.ex ex) en3 ?_)
          cases e2 : s1 env1 μ' with
          | nx en4 m4 => rw [e2] at p'; exact fun σ5 H5 A5 f5 ok5 en5 => ⟨A5, m4, en4, fu.trans (fe.trans f5), ok5, en5, Post.mono (fe.trans f5) p'⟩
          | ct en4 m4 => rw [e2] at p'; exact fun σ5 H5 A5 f5 ok5 en5 => ⟨A5, m4, en4, fu.trans (fe.trans f5), ok5, en5, Post.mono (fe.trans f5) p'⟩
          | bk en4 m4 => rw [e2] at p'; exact fun σ5 H5 A5 f5 ok5 en5 => p' σ5 H5 A5 (fe.trans f5) ok5 en5
          | rt d4 m4 => rw [e2] at p'; exact fun v H5 A5 f5 ok5 r5 => p' v H5 A5 (fe.trans f5) ok5 r5
          | rz => rw [e2] at p'; exact PostR.mono fe p'
          | no => rw [e2] at p'; exact p'.elim
      · exact p'.elim
    · have : i = items.length := by omega
      subst this
      rw [List.drop_of_length_le (Nat.le_refl _)] at p'
      unfold forGo at p'
      split at p'
      · rename_i hgd
        exact .inl ⟨jt.stop A' M μ' H' hm fu ok' hgd, p' σ' H' A' .refl ok' en'⟩
      · exact p'.elim
def whileGo (t : Mo Bool) (body : MS) : Nat → En → Store → Ro
  | 0, _, _ => .no
  | f + 1, env, μ => match t env μ with
    | .no => .no
    | .rz _ _ _ _ => .no
    | .ok c μ1 => if c = true then (match body env μ1 with
      | .nx e m => whileGo t body f e m
      | .ct e m => whileGo t body f e m
      | .bk e m => .nx e m
      | .rt d m => .rt d m
      | .rz c ns ds e m => .rz c ns ds e m
      | .no => .no) else .nx env μ1
def sWhile (fuel : Nat) (t : Mo Bool) (body : MS) : MS := fun env μ => whileGo t body fuel env μ
theorem t_while (fuel : Nat) (ht : EvB K tt mt) (hb : StD K W t1 s1) : StD K W (tWhile tt t1) (sWhile fuel mt s1) := fun A M μ H σ env E ok en p => by
  refine ⟨fun n σ' H' => ∃ A' μ' env', Fut A H A' H' ∧ Ok K A' M μ' H' ∧ EnvRep K A' M H' σ' env' ∧ Post K W A' M H' E (whileGo mt s1 n env' μ'), ⟨fuel, A, μ, env, .refl, ok, en, p⟩, ?_⟩
  rintro n σ' H' ⟨A', μ', env', fu, ok', en', p'⟩
  cases n with
  | zero => exact p'.elim
  | succ n =>
    unfold whileGo at p'
    cases e : mt env' μ' with
    | no => rw [e] at p'; exact p'.elim
    | rz => rw [e] at p'; exact p'.elim
    | ok c μ1 =>
      rw [e] at p'
      dsimp only at p'
      refine ht A' M μ' H' σ' env' c μ1 ok' en' e _ fun H1 A1 f1 ok1 => ?_
      cases c with
      | false => exact p' σ' H1 A1 f1 ok1 (en'.go f1.go)
      | true =>
        refine ⟨fun σ2 H2 => ∃ A2 μ2 env2, Fut A H A2 H2 ∧ Ok K A2 M μ2 H2 ∧ EnvRep K A2 M H2 σ2 env2 ∧ Post K W A2 M H2 E (whileGo mt s1 n env2 μ2), fun σ2 H2 hn => ⟨n, Nat.lt_succ_self n, hn⟩, ?_⟩
        refine hb A1 M μ1 H1 σ' env' _ ok1 (en'.go f1.go) ?_
        rw [if_pos rfl] at p'
        cases e2 : s1 env' μ1 with
        | nx en4 m4 => rw [e2] at p'; exact fun σ5 H5 A5 f5 ok5 en5 => ⟨A5, m4, en4, fu.trans (f1.trans f5), ok5, en5, Post.mono (f1.trans f5) p'⟩
        | ct en4 m4 => rw [e2] at p'; exact fun σ5 H5 A5 f5 ok5 en5 => ⟨A5, m4, en4, fu.trans (f1.trans f5), ok5, en5, Post.mono (f1.trans f5) p'⟩
        | bk en4 m4 => rw [e2] at p'; exact fun σ5 H5 A5 f5 ok5 en5 => p' σ5 H5 A5 (f1.trans f5) ok5 en5
        | rt d4 m4 => rw [e2] at p'; exact fun v H5 A5 f5 ok5 r5 => p' v H5 A5 (f1.trans f5) ok5 r5
        | rz => rw [e2] at p'; exact PostR.mono f1 p'
        | no => rw [e2] at p'; exact p'.elim
/-! ### list comprehensions -/
def lcGo (gd : Gd) (tg : Tg) (t : Mo Bool) (e : Mo D) (env0 : En) : List D → Store → Rs (List D)
  | [], μ => if gdOk gd μ = true then .ok [] μ else .no
  | d :: ds, μ => if gdOk gd μ = true then (match tg d env0 with
    | none => .no
    | some env1 => (t env1 μ).bind fun b μ1 => if b = true then (e env1 μ1).bind fun x μ2 => (lcGo gd tg t e env0 ds μ2).bind fun xs μ3 => .ok (x :: xs) μ3 else lcGo gd tg t e env0 ds μ1) else .no
def mLc (it : Mo (List D × Gd)) (tg : Tg) (t : Mo Bool) (e : Mo D) (vs : List Nat) : Mo (List D) := fun env μ => (it env μ).bind fun r μ1 => if r.1.length ≤ 50000 then lcGo r.2 tg t e (wipeE env vs) r.1 μ1 else .no
theorem Ok.updM {μ : Store} {p : Addr} {o : HO} (h : Ok K A M μ H) (hp : M p) : Ok K A M μ (upd H p o) := by
  have hpA : p ∉ A := fun z => h.dis p z hp
  have g : Go A M H A M (upd H p o) := ⟨fun _ _ h => h, fun a z => .inl z, fun a o' hm e => by
    have ne : a ≠ p := fun z => hm (.inr (z ▸ hp))
    rw [upd_ne ne]; exact e⟩
  refine ⟨h.nd, h.len, fun k a c h1 h2 => ?_, fun a m => ?_, h.dis⟩
  · obtain ⟨y, ws, e1, e2, e3⟩ := h.rep k a _ h1 h2
    have ne : a ≠ p := fun z => hpA (z ▸ List.mem_of_getElem? h1)
    exact ⟨y, ws, by rw [upd_ne ne]; exact e1, RepL.go g e2, e3⟩
  · by_cases z : a = p
    · rw [z, upd_same]; exact fun z => nomatch z
    · rw [upd_ne z]; exact h.al a m
theorem go_updM {p : Addr} {o : HO} (hp : M p) : Go A M H A M (upd H p o) := ⟨fun _ _ h => h, fun a z => .inl z, fun a o' hm e => by
    have ne : a ≠ p := fun z => hm (.inr (z ▸ hp))
    rw [upd_ne ne]; exact e⟩
theorem c_lc {wi : TI} {it : Mo (List D × Gd)} {g : TG} {js vs : List Nat} {tg : Tg} (hi : ItD K wi it) (hg : GD K g js tg) (hjs : ∀ j ∈ js, j ∈ vs) (ht : EvB K tt mt) (he : EvD K te m) : EvC K (tLc wi g tt te vs) (mLc it tg mt m vs) := fun A M μ H σ env ds μ' ok en e Q f => by
  obtain ⟨⟨items, gd⟩, μ1, e1, e2⟩ := Rs.bind_ok e
  split at e2
  · rename_i hlen
    dsimp only at e2 hlen
    refine hi A M μ H σ env items gd μ1 ok en e1 _ fun J H1 A1 f1 ok1 jt Dl hD => ?_
    have hDA := ok1.fresh hD
    have hD0 : H Dl = none := by
      cases e : H Dl with
      | none => rfl
      | some o =>
        by_cases z : Dl ∈ A
        · obtain ⟨B, rfl⟩ := f1.pre
          exact absurd (.inl (List.mem_append_left _ z)) hDA
        · rw [f1.pr Dl o z e] at hD; cases hD
    have hm : ∀ a, MP M Dl a → M a ∨ H1 a = none := fun a h => h.imp id fun z => by rw [z]; exact hD
    have goN : ∀ {A' : List Addr} {H' : Hp}, Fut A1 H1 A' H' → Go A1 M H1 A' (MP M Dl) H' := fun {A' H'} fu => by
      have g := fu.go (M := M)
      refine ⟨g.ix, fun a z => ?_, g.pr⟩
      rcases z with z | z | z
      · exact g.new a (.inl z)
      · exact .inl (.inr z)
      · rw [z]; exact .inr hD
    have en1 := (en.go f1.go).wipe vs
    refine ⟨fun i n H' => n = items.length - i ∧ i ≤ items.length ∧ ∃ A' μ2 acc vacc rest, Fut A1 H1 A' H' ∧ Ok K A' (MP M Dl) μ2 H' ∧ H' Dl = some (.lst vacc) ∧ RepL K A' (MP M Dl) H' vacc acc ∧ acc.length ≤ i ∧ lcGo gd tg mt m (wipeE env vs) (items.drop i) μ2 = .ok rest μ' ∧ acc ++ rest = ds, ⟨items.length, by simp, Nat.zero_le _, A1, μ1, [], [], ds, .newO hD, ?_, upd_same, rfl, Nat.le_refl _, e2, rfl⟩, ?_⟩
    · have g : Go A1 M H1 A1 (MP M Dl) (upd H1 Dl (.lst [])) := goN (.newO hD)
      refine ⟨ok1.nd, ok1.len, fun k a c h1 h2 => ?_, fun a mm => ?_, fun a ha mm => ?_⟩
      · obtain ⟨y, ws, e1, e2, e3⟩ := ok1.rep k a _ h1 h2
        have ne : a ≠ Dl := fun z => by rw [z, hD] at e1; cases e1
        exact ⟨y, ws, by rw [upd_ne ne]; exact e1, RepL.go g e2, e3⟩
      · by_cases z : a = Dl
        · rw [z, upd_same]; exact fun z => nomatch z
        · rw [upd_ne z]; exact ok1.al a (mm.resolve_right z)
      · rcases mm with mm | mm
        · exact ok1.dis a ha mm
        · exact hDA (.inl (mm ▸ ha))
    · rintro i n H' ⟨rfl, hle, A', μ2, acc, vacc, rest, fu, ok', hv, rv, hal, e3, hds⟩
      by_cases hlt : i < items.length
      · have hget : items[i]? = some items[i] := List.getElem?_eq_getElem hlt
        rw [List.drop_eq_getElem_cons hlt] at e3
        unfold lcGo at e3
        split at e3
        · rename_i hgd
          cases e4 : tg items[i] (wipeE env vs) with
          | none => rw [e4] at e3; cases e3
          | some env1 =>
            rw [e4] at e3
            dsimp only at e3
            obtain ⟨b, μ3, e5, e6⟩ := Rs.bind_ok e3
            refine .inr ⟨jt.go i A' (MP M Dl) μ2 H' hm fu ok' hgd hlt, fun H2 => ∃ A2 μ2 acc vacc rest, Fut A1 H1 A2 H2 ∧ Ok K A2 (MP M Dl) μ2 H2 ∧ H2 Dl = some (.lst vacc) ∧ RepL K A2 (MP M Dl) H2 vacc acc ∧ acc.length ≤ i + 1 ∧ lcGo gd tg mt m (wipeE env vs) (items.drop (i + 1)) μ2 = .ok rest μ' ∧ acc ++ rest = ds, fun H2 hn => ⟨items.length - (i + 1), by omega, rfl, by omega, hn⟩, fun x H'' hy => ?_⟩
            obtain ⟨ex, rx⟩ := jt.yld i A' (MP M Dl) μ2 H' x H'' _ hm fu ok' hgd hget hy
            have fe : Fut A' H' A' H'' := .ex ex
            obtain ⟨σ3, en3, w3, q3⟩ := hg A' (MP M Dl) H'' x _ (wipe σ vs) (wipeE env vs) env1 (en1.go (goN (fu.trans fe))) rx e4
            refine q3 _ ⟨(w3 vs hjs).trans wipe_idem, ?_⟩
            refine ht A' (MP M Dl) μ2 H'' σ3 env1 b μ3 (ok'.ex ex) en3 e5 _ fun H3 A3 f3 ok3 => ?_
            have hD3 : H3 Dl = some (.lst vacc) := f3.pr _ _ (fun z => ok'.dis _ z (.inr rfl)) (ex _ _ hv)
            have rv3 : RepL K A3 (MP M Dl) H3 vacc acc := RepL.go (fe.trans f3).go rv
            cases b with
            | false =>
              exact ⟨A3, μ3, acc, vacc, rest, fu.trans (fe.trans f3), ok3, hD3, rv3, by omega, e6, hds⟩
            | true =>
              obtain ⟨y, μ4, e7, e8⟩ := Rs.bind_ok e6
              obtain ⟨ys, μ5, e9, e10⟩ := Rs.bind_ok e8
              cases e10
              refine he A3 (MP M Dl) μ3 H3 σ3 env1 y μ4 ok3 (en3.go f3.go) e7 _ fun yv H4 A4 f4 ok4 r4 => ?_
              have hD4 : H4 Dl = some (.lst vacc) := f4.pr _ _ (fun z => ok3.dis _ z (.inr rfl)) hD3
              have hMD : MP M Dl Dl := .inr rfl
              refine ⟨vacc, hD4, Evl.sz_lt (by rw [rv.len]; omega), A4, μ4, acc ++ [y], vacc ++ [yv], ys, ?_, ok4.updM hMD, upd_same, RepL.go (go_updM hMD) ((RepL.go f4.go rv3).app (.one r4)), by simp; omega, e9, by rw [← hds]; simp⟩
              have f5 := fu.trans (fe.trans (f3.trans f4))
              refine ⟨f5.pre, f5.new, fun a o ha hh => ?_⟩
              have ne : a ≠ Dl := fun z => by rw [z, hD] at hh; cases hh
              rw [upd_ne ne]
              exact f5.pr a o ha hh
        · cases e3
      · have : i = items.length := by omega
        subst this
        rw [List.drop_of_length_le (Nat.le_refl _)] at e3
        unfold lcGo at e3
        split at e3
        · rename_i hgd
          cases e3
          refine .inl ⟨jt.stop A' (MP M Dl) _ H' hm fu ok' hgd, ?_⟩
          rw [List.append_nil] at hds
          subst hds
          exact f Dl vacc H' A' (f1.trans fu) ok' hv hD0 rv
        · cases e3
  · cases e2
end
end My
namespace My
open PySem PySem.Spec PyProof.Rows L2
/-! ### lists by their model -/
def cellOf (μ : Store) (k : Nat) : Option (List D) := match μ[k]? with
  | some (.lst ds) => some ds
  | _ => none
def asL (μ : Store) : D → Option (List D)
  | .lst xs => some xs
  | .ref k => cellOf μ k
  | _ => none
def asS (μ : Store) : D → Option (List D)
  | .wl xs => some xs
  | .lst xs => some xs
  | .ref k => cellOf μ k
  | _ => none
/-- a list or a tuple -/
def asQ (μ : Store) : D → Option (List D)
  | .tup xs => some xs
  | .wl xs => some xs
  | .lst xs => some xs
  | .ref k => cellOf μ k
  | _ => none
section
variable {K : PySem.W.Frag} {A : List Addr} {M : Addr → Prop} {μ : Store} {H : Hp} {v w : V} {d : D} {xs ds : List D} {k : Nat}
theorem cell_rep (ok : Ok K A M μ H) {a : Addr} (ha : A[k]? = some a) (e : cellOf μ k = some xs) : ∃ vs, H a = some (.lst vs) ∧ RepL K A M H vs xs ∧ pureL xs = true := by
  unfold cellOf at e
  split at e
  · rename_i ds h
    cases e
    obtain ⟨x, vs, h1, h2, h3, _⟩ := ok.rep k a _ ha h
    exact ⟨vs, h1, h2, h3⟩
  · cases e
theorem asL_rep (ok : Ok K A M μ H) (r : RepD K A M H v d) (e : asL μ d = some xs) : ∃ p vs, v = .ref p ∧ H p = some (.lst vs) ∧ RepL K A M H vs xs := by
  cases d <;> try cases e
  · obtain ⟨p, vs, rfl, h, r⟩ := r
    exact ⟨p, vs, rfl, h.1, r⟩
  · obtain ⟨a, rfl, ha⟩ := r
    obtain ⟨vs, h1, h2, _⟩ := cell_rep ok ha e
    exact ⟨a, vs, rfl, h1, h2⟩
theorem asS_rep (ok : Ok K A M μ H) (r : RepD K A M H v d) (e : asS μ d = some xs) : ∃ p vs, v = .ref p ∧ SqL K H p vs ∧ RepL K A M H vs xs := by
  cases d <;> try cases e
  · obtain ⟨p, vs, rfl, h, r⟩ := r
    exact ⟨p, vs, rfl, h.sq, r⟩
  · obtain ⟨p, vs, rfl, h, r⟩ := r
    exact ⟨p, vs, rfl, h.sq, r⟩
  · obtain ⟨a, rfl, ha⟩ := r
    obtain ⟨vs, h1, h2, _⟩ := cell_rep ok ha e
    exact ⟨a, vs, rfl, .inl (.inl h1), h2⟩
theorem asQ_rep (ok : Ok K A M μ H) (r : RepD K A M H v d) (e : asQ μ d = some xs) : ∃ p vs, v = .ref p ∧ (SqL K H p vs ∨ SqT K H p vs) ∧ RepL K A M H vs xs := by
  cases d <;> try cases e
  · obtain ⟨p, vs, rfl, h, r⟩ := r
    exact ⟨p, vs, rfl, .inr h.sq, r⟩
  · obtain ⟨p, vs, rfl, h, r⟩ := r
    exact ⟨p, vs, rfl, .inl h.sq, r⟩
  · obtain ⟨p, vs, rfl, h, r⟩ := r
    exact ⟨p, vs, rfl, .inl h.sq, r⟩
  · obtain ⟨a, rfl, ha⟩ := r
    obtain ⟨vs, h1, h2, _⟩ := cell_rep ok ha e
    exact ⟨a, vs, rfl, .inl (.inl (.inl h1)), h2⟩
/-! ### arithmetic -/
def dAdd (μ : Store) : D → D → Option D
  | .int a, .int b => some (.int (a + b))
  | .str a, .str b => if a.length + b.length ≤ 100000 then some (.str (a ++ b)) else none
  | .bl a, .bl b => some (.int (b2i a + b2i b))
  | .tup a, .tup b => if a.length + b.length ≤ 100000 then some (.tup (a ++ b)) else none
  | x, y => match asL μ x, asL μ y with
    | some a, some b => if a.length + b.length ≤ 100000 then some (.lst (a ++ b)) else none
    | _, _ => none
theorem op_dCat {x y : V} {dx dy : D} {a b : List D} (ok : Ok K A M μ H) (rx : RepD K A M H x dx) (ry : RepD K A M H y dy) (hx : asL μ dx = some a) (hy : asL μ dy = some b) (hl : a.length + b.length ≤ 100000) {Q : VK} (f : ∀ p vs, H p = none → RepL K A M H vs (a ++ b) → Q (.ref p) (upd H p (.lst vs))) : rAddU K x y H Q := by
  obtain ⟨p, vs, rfl, h1, r1⟩ := asL_rep ok rx hx
  obtain ⟨q, ws, rfl, h2, r2⟩ := asL_rep ok ry hy
  refine .inr (.inr (.inl ⟨p, q, vs, ws, rfl, rfl, h1, h2, Evl.sz_of (by rw [r1.len, r2.len]; exact hl), fun l hl => f l _ hl (r1.app r2)⟩))
theorem od_add : OpD K (rAddU K) dAdd := fun A M μ H x y dx dy d ok rx ry e Q f => by
  unfold dAdd at e
  split at e
  · cases e
    cases rx; cases ry
    exact .inl ⟨_, _, rfl, rfl, f _ H (Evl.Ex.refl _) rfl⟩
  · split at e
    · rename_i h
      cases e
      cases rx; cases ry
      exact .inr (.inl ⟨_, _, rfl, rfl, by rw [SX.S_len, SX.S_len]; exact Evl.sz_of h, f _ H (Evl.Ex.refl _) (by show V.str _ = _; rw [SX.S_cat])⟩)
    · cases e
  · cases e
    cases rx; cases ry
    exact .inr (.inr (.inr (.inr ⟨_, _, rfl, rfl, f _ H (Evl.Ex.refl _) rfl⟩)))
  · split at e
    · rename_i a b h
      cases e
      obtain ⟨p, vs, rfl, h1, r1⟩ := rx
      obtain ⟨q, ws, rfl, h2, r2⟩ := ry
      refine .inr (.inr (.inr (.inl ⟨p, q, vs, ws, rfl, rfl, h1.sq, h2.sq, Evl.sz_of (by rw [r1.len, r2.len]; exact h), fun e0 => ?_, fun _ e0 => ?_, fun _ _ l hl => ?_⟩)))
      · subst e0
        have : a = [] := List.eq_nil_of_length_eq_zero r1.len.symm
        subst this
        exact f _ H (Evl.Ex.refl _) ⟨q, ws, rfl, h2, r2⟩
      · subst e0
        have : b = [] := List.eq_nil_of_length_eq_zero r2.len.symm
        subst this
        exact f _ H (Evl.Ex.refl _) ⟨p, vs, rfl, h1, by rw [List.append_nil]; exact r1⟩
      · exact f _ _ (Evl.Ex.new hl) ⟨l, _, rfl, .of upd_same (ok.fresh hl), RepL.go (Fut.newO hl).go (r1.app r2)⟩
    · cases e
  · split at e
    · split at e
      · rename_i hx hy h
        cases e
        exact op_dCat ok rx ry hx hy h fun p vs hp r => f _ _ (Evl.Ex.new hp) ⟨p, vs, rfl, ⟨upd_same, ok.fresh hp⟩, RepL.go (Fut.newO hp).go r⟩
      · cases e
    · cases e
/-- .. a new list by it -/
def mCat (a b : Mo D) : Mo (List D) := fun env μ => (a env μ).bind fun x μ1 => (b env μ1).bind fun y μ2 => match asL μ2 x, asL μ2 y with
    | some a, some b => if a.length + b.length ≤ 100000 then .ok (a ++ b) μ2 else .no
    | _, _ => .no
theorem c_cat {ta tb : TE} {ma mb : Mo D} (h : EvD K ta ma) (h2 : EvD K tb mb) : EvC K (tOp (rAddU K) ta tb) (mCat ma mb) := fun A M μ H σ env d μ' ok en e Q f => by
  obtain ⟨x, μ1, e1, e2⟩ := Rs.bind_ok e
  obtain ⟨y, μ2, e3, e4⟩ := Rs.bind_ok e2
  split at e4
  · rename_i a b hx hy
    split at e4
    · rename_i hl
      cases e4
      refine h A M μ H σ env x μ1 ok en e1 _ fun v H1 A1 f1 ok1 r1 => h2 A1 M μ1 H1 σ env y _ ok1 (en.go f1.go) e3 _ fun w H2 A2 f2 ok2 r2 => ?_
      exact op_dCat ok2 (RepD.go f2.go r1) r2 hx hy hl fun p vs hp r => newC (f1.trans f2) ok2 ok hp r f
    · cases e4
  · cases e4
def dSub (_ : Store) : D → D → Option D
  | .int a, .int b => some (.int (a - b))
  | _, _ => none
theorem od_sub : OpD K (rI0 fun i j => V.int (i - j)) dSub := fun A M μ H x y dx dy d ok rx ry e Q f => by
  cases dx <;> cases dy <;> try cases e
  cases rx; cases ry
  exact ⟨_, _, rfl, rfl, f _ H (Evl.Ex.refl _) rfl⟩
def dMod (_ : Store) : D → D → Option D
  | .int a, .int b => if 0 < b then some (.int (a % b)) else none
  | _, _ => none
theorem od_mod : OpD K (rI (fun _ j => 0 < j) fun i j => V.int (i % j)) dMod := fun A M μ H x y dx dy d ok rx ry e Q f => by
  unfold dMod at e
  split at e <;> try (cases e; done)
  split at e <;> try (cases e; done)
  · rename_i h
    cases e
    cases rx; cases ry
    exact ⟨_, _, rfl, rfl, h, f _ H (Evl.Ex.refl _) rfl⟩
def dDiv (_ : Store) : D → D → Option D
  | .int a, .int b => if 0 < b ∧ (b < 1073741824 ∨ b.natAbs.log2 < 9000) then some (.int (a / b)) else none
  | _, _ => none
theorem od_div : OpD K rDivU dDiv := fun A M μ H x y dx dy d ok rx ry e Q f => by
  unfold dDiv at e
  split at e <;> try (cases e; done)
  split at e <;> try (cases e; done)
  · rename_i h
    cases e
    cases rx; cases ry
    rcases h.2 with h2 | h2
    · exact .inl ⟨_, _, rfl, rfl, ⟨h.1, h2⟩, f _ H (Evl.Ex.refl _) rfl⟩
    · exact .inr ⟨_, _, rfl, rfl, ⟨h.1, h2⟩, f _ H (Evl.Ex.refl _) rfl⟩
def dPow (_ : Store) : D → D → Option D
  | .int a, .int b => if 0 ≤ b ∧ b ≤ 1000000 ∧ a.natAbs < 2 ^ 64 then some (.int (a ^ b.toNat)) else none
  | _, _ => none
theorem od_pow : OpD K (rI CPow fun i j => V.int (i ^ j.toNat)) dPow := fun A M μ H x y dx dy d ok rx ry e Q f => by
  unfold dPow at e
  split at e <;> try (cases e; done)
  split at e <;> try (cases e; done)
  · rename_i h
    cases e
    cases rx; cases ry
    exact ⟨_, _, rfl, rfl, h, f _ H (Evl.Ex.refl _) rfl⟩
def dMul (μ : Store) : D → D → Option D
  | .int a, .int b => if (-(2 ^ 64) < a ∧ a < 2 ^ 64) ∨ (-(2 ^ 64) < b ∧ b < 2 ^ 64) then some (.int (a * b)) else none
  | .str [c], .int b => if -100000 ≤ b ∧ b ≤ 100000 then some (.str (List.replicate b.toNat c)) else none
  | x, .int b => match asL μ x with
    | some xs => if -100000 ≤ b ∧ b ≤ 100000 ∧ xs.length * b.toNat ≤ 100000 then some (.lst (List.replicate b.toNat xs).flatten) else none
    | none => none
  | _, _ => none
theorem RepL.rep {vs : List V} {xs : List D} (r : RepL K A M H vs xs) : ∀ n : Nat, RepL K A M H (List.replicate n vs).flatten (List.replicate n xs).flatten
  | 0 => rfl
  | n + 1 => by
    rw [List.replicate_succ, List.replicate_succ, List.flatten_cons, List.flatten_cons]
    exact r.app (RepL.rep r n)
theorem od_mul : OpD K rMulU dMul := fun A M μ H x y dx dy d ok rx ry e Q f => by
  unfold dMul at e
  split at e
  · split at e
    · rename_i h
      cases e
      cases rx; cases ry
      exact .inl ⟨_, _, rfl, rfl, h, f _ H (Evl.Ex.refl _) rfl⟩
    · cases e
  · split at e
    · rename_i c b h
      cases e
      cases rx; cases ry
      exact .inr (.inr ⟨c, b, rfl, rfl, h.1, h.2, f _ H (Evl.Ex.refl _) ((sv_of _).trans (by unfold cs; rw [PyProof.Rows.mul_one_list]))⟩)
    · cases e
  · split at e
    · split at e
      · rename_i xs hx h
        cases e
        cases ry
        obtain ⟨p, vs, rfl, h1, r1⟩ := asL_rep ok rx hx
        exact .inr (.inl ⟨p, _, vs, rfl, rfl, h1, by omega, by omega, Evl.sz_of (by rw [r1.len]; exact h.2.2), fun l hl => f _ _ (Evl.Ex.new hl) ⟨l, _, rfl, ⟨upd_same, ok.fresh hl⟩, RepL.go (Fut.newO hl).go (r1.rep _)⟩⟩)
      · cases e
    · cases e
  · cases e
def mNeg (m : Mo D) : Mo D := fun env μ => (m env μ).bind fun d μ1 => match d with
  | .int i => .ok (.int (-i)) μ1
  | _ => .no
theorem d_neg {te : TE} {m : Mo D} (h : EvD K te m) : EvD K (tUn (rU fun i => .int (-i)) te) (mNeg m) := fun A M μ H σ env d μ' ok en e Q f => by
  obtain ⟨x, μ1, e1, e2⟩ := Rs.bind_ok e
  split at e2
  · cases e2
    exact h A M μ H σ env _ _ ok en e1 _ fun v H1 A1 f1 ok1 r1 => ⟨_, r1, f _ H1 A1 f1 ok1 rfl⟩
  · cases e2
/-! ### comparisons -/
def dLt (_ : Store) : D → D → Option D
  | .int a, .int b => some (.bl (decide (a < b)))
  | .str a, .str b => some (.bl (decide (a < b)))
  | _, _ => none
theorem od_lt : OpD K rLtU dLt := fun A M μ H x y dx dy d ok rx ry e Q f => by
  cases dx <;> cases dy <;> try cases e
  · cases rx; cases ry
    exact .inl ⟨_, _, rfl, rfl, f _ H (Evl.Ex.refl _) rfl⟩
  · cases rx; cases ry
    exact .inr ⟨_, _, rfl, rfl, f _ H (Evl.Ex.refl _) rfl⟩
def dLe (_ : Store) : D → D → Option D
  | .int a, .int b => some (.bl (decide (a ≤ b)))
  | _, _ => none
theorem od_le : OpD K rLeU dLe := fun A M μ H x y dx dy d ok rx ry e Q f => by
  cases dx <;> cases dy <;> try cases e
  cases rx; cases ry
  exact ⟨_, _, rfl, rfl, f _ H (Evl.Ex.refl _) rfl⟩
def dGt (_ : Store) : D → D → Option D
  | .int a, .int b => some (.bl (decide (b < a)))
  | _, _ => none
theorem od_gt : OpD K rGtU dGt := fun A M μ H x y dx dy d ok rx ry e Q f => by
  cases dx <;> cases dy <;> try cases e
  cases rx; cases ry
  exact ⟨_, _, rfl, rfl, f _ H (Evl.Ex.refl _) rfl⟩
def dGe (_ : Store) : D → D → Option D
  | .int a, .int b => some (.bl (decide (b ≤ a)))
  | _, _ => none
theorem od_ge : OpD K rGeU dGe := fun A M μ H x y dx dy d ok rx ry e Q f => by
  cases dx <;> cases dy <;> try cases e
  cases rx; cases ry
  exact ⟨_, _, rfl, rfl, f _ H (Evl.Ex.refl _) rfl⟩
/-! data -/
mutual
def toData : D → Option PyData
  | .non => some .none
  | .bl b => some (.bool b)
  | .int i => some (.int i)
  | .str l => some (.str (SX.S l))
  | .ty _ => none
  | .tup ds => (toDataL ds).map .tuple
  | .lst ds => (toDataL ds).map .list
  | .wl ds => (toDataL ds).map .list
  | .ref _ => none
  | .cls _ => none
  | .obj _ _ _ => none
  | .dic _ _ _ => none
  | .err _ _ _ => none
def toDataL : List D → Option (List PyData)
  | [] => some []
  | d :: ds => match toData d, toDataL ds with
    | some x, some xs => some (x :: xs)
    | _, _ => none
end
mutual
theorem toData_dp : ∀ {d : D} {v : V} {x : PyData}, RepD K A M H v d → toData d = some x → Dp K H v x
  | .non, _, _, r, e => by cases e; cases r; exact .non
  | .bl b, _, _, r, e => by cases e; cases r; exact .bl b
  | .int i, _, _, r, e => by cases e; cases r; exact .int i
  | .str l, _, _, r, e => by cases e; cases r; exact .str _
  | .ty _, _, _, _, e => nomatch e
  | .ref _, _, _, _, e => nomatch e
  | .cls _, _, _, _, e => nomatch e
  | .obj _ _ _, _, _, _, e => nomatch e
  | .dic _ _ _, _, _, _, e => nomatch e
  | .err _ _ _, _, _, _, e => nomatch e
  | .tup ds, _, _, ⟨p, vs, e1, h, r⟩, e => by
    obtain ⟨xs, e2, e3⟩ := Option.map_eq_some_iff.mp (show (toDataL ds).map PyData.tuple = _ from e)
    rw [e1, ← e3]
    exact .tup h.sq (toDataL_dp r e2)
  | .lst ds, _, _, ⟨p, vs, e1, h, r⟩, e => by
    obtain ⟨xs, e2, e3⟩ := Option.map_eq_some_iff.mp (show (toDataL ds).map PyData.list = _ from e)
    rw [e1, ← e3]
    exact .lst h.sq (toDataL_dp r e2)
  | .wl ds, _, _, ⟨p, vs, e1, h, r⟩, e => by
    obtain ⟨xs, e2, e3⟩ := Option.map_eq_some_iff.mp (show (toDataL ds).map PyData.list = _ from e)
    rw [e1, ← e3]
    exact .lst h.sq (toDataL_dp r e2)
theorem toDataL_dp : ∀ {ds : List D} {vs : List V} {xs : List PyData}, RepL K A M H vs ds → toDataL ds = some xs → DpAll K H vs xs
  | [], _, _, r, e => by cases e; rw [show _ = [] from r]; exact .nil
  | d :: ds, _, _, ⟨v, rs, e1, h, r⟩, e => by
    unfold toDataL at e
    split at e
    · rename_i x xs h1 h2
      cases e
      rw [e1]
      exact .cons (toData_dp h h1) (toDataL_dp r h2)
    · cases e
end
def toDataS (μ : Store) : D → Option PyData
  | .ref k => match cellOf μ k with
    | some ds => (toDataL ds).map .list
    | none => none
  | d => toData d
theorem toDataS_dp {x : PyData} (ok : Ok K A M μ H) (r : RepD K A M H v d) (e : toDataS μ d = some x) : Dp K H v x := by
  cases d with
  | ref k =>
    unfold toDataS at e
    dsimp only at e
    cases hc : cellOf μ k with
    | some ds =>
      rw [hc] at e
      obtain ⟨xs, e2, e3⟩ := Option.map_eq_some_iff.mp e
      obtain ⟨a, rfl, ha⟩ := r
      obtain ⟨vs, h1, h2, _⟩ := cell_rep ok ha hc
      rw [← e3]
      exact .lst (.inl (.inl h1)) (toDataL_dp h2 e2)
    | none => rw [hc] at e; cases e
  | _ => exact toData_dp r e
def bEq (μ : Store) : D → D → Option Bool
  | .int a, .int b => some (decide (a = b))
  | .str a, .str b => some (decide (a = b))
  | .bl a, .bl b => some (a == b)
  | x, y => match toDataS μ x, toDataS μ y with
    | some a, some b => if SeqAt.shaped a = true ∧ SeqAt.shaped b = true then some (PyData.eqv a b) else none
    | _, _ => none
def dEq (μ : Store) (x y : D) : Option D := (bEq μ x y).map .bl
def dNe (μ : Store) (x y : D) : Option D := (bEq μ x y).map fun b => .bl (!b)
theorem bEq_ok {x y : V} {dx dy : D} {b : Bool} (ok : Ok K A M μ H) (rx : RepD K A M H x dx) (ry : RepD K A M H y dy) (e : bEq μ dx dy = some b) :
    (scal x y = true ∧ decide (x = y) = b) ∨ (∃ a c, Dp K H x a ∧ Dp K H y c ∧ SeqAt.shaped a = true ∧ SeqAt.shaped c = true ∧ PyData.eqv a c = b) := by
  unfold bEq at e
  split at e
  · cases e; cases rx; cases ry
    exact .inl ⟨rfl, dec_int _ _⟩
  · cases e; cases rx; cases ry
    exact .inl ⟨rfl, dec_sv _ _⟩
  · cases e; cases rx; cases ry
    exact .inl ⟨rfl, dec_bl _ _⟩
  · split at e
    · split at e
      · rename_i h1 h2 h3
        cases e
        exact .inr ⟨_, _, toDataS_dp ok rx h1, toDataS_dp ok ry h2, h3.1, h3.2, rfl⟩
      · cases e
    · cases e
theorem od_eq : OpD K (rEqU K) dEq := fun A M μ H x y dx dy d ok rx ry e Q f => by
  obtain ⟨b, e1, e2⟩ := Option.map_eq_some_iff.mp e
  subst e2
  rcases bEq_ok ok rx ry e1 with ⟨h1, h2⟩ | ⟨a, c, h1, h2, h3, h4, h5⟩
  · exact .inl ⟨h1, by rw [h2]; exact f _ H (Evl.Ex.refl _) rfl⟩
  · exact .inr ⟨a, c, h1, h2, h3, h4, by rw [h5]; exact f _ H (Evl.Ex.refl _) rfl⟩
theorem od_ne : OpD K (rNeU K) dNe := fun A M μ H x y dx dy d ok rx ry e Q f => by
  obtain ⟨b, e1, e2⟩ := Option.map_eq_some_iff.mp e
  subst e2
  rcases bEq_ok ok rx ry e1 with ⟨h1, h2⟩ | ⟨a, c, h1, h2, h3, h4, h5⟩
  · exact .inl ⟨h1, by rw [h2]; exact f _ H (Evl.Ex.refl _) rfl⟩
  · exact .inr ⟨a, c, h1, h2, h3, h4, by rw [h5]; exact f _ H (Evl.Ex.refl _) rfl⟩
/-- in -/
def flatD : D → Bool
  | .non => true
  | .bl _ => true
  | .int _ => true
  | .str _ => true
  | _ => false
def toV : D → V
  | .bl b => .bl b
  | .int i => .int i
  | .str l => sv l
  | _ => .non
theorem flat_rep (h : flatD d = true) (r : RepD K A M H v d) : v = toV d ∧ flatV (toV d) = true := by
  cases d <;> cases h <;> exact ⟨r, rfl⟩
theorem flat_repL : ∀ {ds : List D} {vs : List V}, ds.all flatD = true → RepL K A M H vs ds → vs = ds.map toV ∧ (ds.map toV).all flatV = true
  | [], _, _, r => ⟨r, rfl⟩
  | d :: ds, _, h, ⟨v, rs, e, h1, r⟩ => by
    rw [List.all_cons, Bool.and_eq_true] at h
    obtain ⟨h2, h3⟩ := flat_rep h.1 h1
    obtain ⟨h4, h5⟩ := flat_repL h.2 r
    rw [e, h2, h4, List.map_cons, List.all_cons, h3, h5]
    exact ⟨rfl, rfl⟩
def bIn (μ : Store) : D → D → Option Bool
  | .str [c], .str l => some (decide (c ∈ l))
  | x, y => match asQ μ y with
    | some ys => if flatD x = true ∧ ys.all flatD = true then some (inV (toV x) (ys.map toV)) else none
    | none => none
def dIn (μ : Store) (x y : D) : Option D := (bIn μ x y).map .bl
def dNi (μ : Store) (x y : D) : Option D := (bIn μ x y).map fun b => .bl (!b)
theorem od_in : OpD K (rInU K) dIn := fun A M μ H x y dx dy d ok rx ry e Q f => by
  obtain ⟨b, e1, e2⟩ := Option.map_eq_some_iff.mp e
  subst e2
  unfold bIn at e1
  split at e1
  · cases e1; cases rx; cases ry
    exact .inl ⟨_, _, rfl, rfl, f _ H (Evl.Ex.refl _) rfl⟩
  · split at e1
    · split at e1
      · rename_i ys hy h
        cases e1
        obtain ⟨p, vs, rfl, hs, r⟩ := asQ_rep ok ry hy
        obtain ⟨h1, h2⟩ := flat_rep h.1 rx
        obtain ⟨h3, h4⟩ := flat_repL h.2 r
        subst h1; subst h3
        exact .inr (.inl ⟨p, _, rfl, hs, h2, h4, f _ H (Evl.Ex.refl _) rfl⟩)
      · cases e1
    · cases e1
theorem od_ni : OpD K (rNotInU K) dNi := fun A M μ H x y dx dy d ok rx ry e Q f => by
  obtain ⟨b, e1, e2⟩ := Option.map_eq_some_iff.mp e
  subst e2
  unfold bIn at e1
  split at e1
  · cases e1; cases rx; cases ry
    exact .inl ⟨_, _, rfl, rfl, f _ H (Evl.Ex.refl _) rfl⟩
  · split at e1
    · split at e1
      · rename_i ys hy h
        cases e1
        obtain ⟨p, vs, rfl, hs, r⟩ := asQ_rep ok ry hy
        obtain ⟨h1, h2⟩ := flat_rep h.1 rx
        obtain ⟨h3, h4⟩ := flat_repL h.2 r
        subst h1; subst h3
        exact .inr (.inl ⟨p, _, rfl, hs, h2, h4, f _ H (Evl.Ex.refl _) rfl⟩)
      · cases e1
    · cases e1
/-- is -/
def isNon : D → Bool
  | .non => true
  | _ => false
theorem isNon_rep (r : RepD K A M H v d) : decide (v = .non) = isNon d := by
  cases d with
  | non => cases r; rfl
  | bl b => cases r; rfl
  | int i => cases r; rfl
  | str l => cases r; rfl
  | ty n => cases r; rfl
  | tup ds => obtain ⟨p, vs, rfl, _⟩ := r; rfl
  | lst ds => obtain ⟨p, vs, rfl, _⟩ := r; rfl
  | wl ds => obtain ⟨p, vs, rfl, _⟩ := r; rfl
  | ref k => obtain ⟨p, rfl, _⟩ := r; rfl
  | cls c => cases r; rfl
  | obj c ns ds => obtain ⟨p, x, vs, rfl, _⟩ := r; rfl
  | dic t ks ds => obtain ⟨p, vs, rfl, _⟩ := r; rfl
  | err c ns ds => obtain ⟨p, od, vs, rfl, _⟩ := r; rfl
def bIs : D → D → Option Bool
  | x, .non => some (isNon x)
  | .bl a, .bl b => some (decide (a = b))
  | _, _ => none
def dIs (_ : Store) (x y : D) : Option D := (bIs x y).map .bl
def dIsn (_ : Store) (x y : D) : Option D := (bIs x y).map fun b => .bl (!b)
theorem od_is : OpD K rIsU dIs := fun A M μ H x y dx dy d ok rx ry e Q f => by
  obtain ⟨b, e1, e2⟩ := Option.map_eq_some_iff.mp e
  subst e2
  unfold bIs at e1
  split at e1
  · cases e1; cases ry
    exact .inl ⟨rfl, by rw [isNon_rep rx]; exact f _ H (Evl.Ex.refl _) rfl⟩
  · cases e1; cases rx; cases ry
    exact .inr ⟨_, _, rfl, rfl, f _ H (Evl.Ex.refl _) rfl⟩
  · cases e1
theorem od_isn : OpD K rIsNotU dIsn := fun A M μ H x y dx dy d ok rx ry e Q f => by
  obtain ⟨b, e1, e2⟩ := Option.map_eq_some_iff.mp e
  subst e2
  unfold bIs at e1
  split at e1
  · cases e1; cases ry
    exact .inl ⟨rfl, by rw [isNon_rep rx]; exact f _ H (Evl.Ex.refl _) rfl⟩
  · cases e1; cases rx; cases ry
    exact .inr ⟨_, _, rfl, rfl, f _ H (Evl.Ex.refl _) rfl⟩
  · cases e1
/-! ### places, slices -/
def dIx (μ : Store) : D → D → Option D
  | .str l, .int i => if l.length ≤ 100000 then (atI l i).map fun c => .str [c] else none
  | x, .int i => match asQ μ x with
    | some xs => atI xs i
    | none => none
  | _, _ => none
theorem atI_rep {vs : List V} {i : Int} (r : RepL K A M H vs xs) (e : atI xs i = some d) : ∃ v, atI vs i = some v ∧ RepD K A M H v d := by
  unfold atI at *
  rw [r.len]
  obtain ⟨j, h1, h2⟩ := Option.bind_eq_some_iff.mp e
  obtain ⟨v, h3, h4⟩ := r.get h2
  exact ⟨v, by rw [h1]; exact h3, h4⟩
theorem od_ix : OpD K (rIx K) dIx := fun A M μ H x y dx dy d ok rx ry e Q f => by
  unfold dIx at e
  split at e
  · split at e
    · rename_i h
      obtain ⟨c, h1, h2⟩ := Option.map_eq_some_iff.mp e
      cases rx; cases ry; cases h2
      exact .inr (.inr ⟨_, _, c, rfl, rfl, slen h, h1, f _ H (Evl.Ex.refl _) rfl⟩)
    · cases e
  · split at e
    · rename_i xs hx
      cases ry
      obtain ⟨p, vs, rfl, hs, r⟩ := asQ_rep ok rx hx
      obtain ⟨v, h1, h2⟩ := atI_rep r e
      rcases hs with hs | hs
      · exact .inl ⟨p, vs, _, v, rfl, rfl, hs, h1, f _ H (Evl.Ex.refl _) h2⟩
      · exact .inr (.inl ⟨p, vs, _, v, rfl, rfl, hs, h1, f _ H (Evl.Ex.refl _) h2⟩)
    · cases e
  · cases e
def cutD (xs : List D) (lo hi : Option Int) : List D := (xs.drop (HT.sIx xs.length 0 lo)).take (HT.sIx xs.length xs.length hi - HT.sIx xs.length 0 lo)
theorem cut_rep {vs : List V} (lo hi : Option Int) (r : RepL K A M H vs xs) : RepL K A M H (cutV vs lo hi) (cutD xs lo hi) := by
  unfold cutV cutD
  rw [r.len]
  exact (r.drop _).take _
def dSl (μ : Store) (x : D) (lo hi : Option Int) : Option D := match x with
  | .str l => if l.length ≤ 100000 then some (.str (sl l lo hi)) else none
  | x => match asS μ x with
    | some xs => some (.lst (cutD xs lo hi))
    | none => none
theorem sd_any : SlD K (rSlU K) dSl := fun A M μ H x dx lo hi d ok rx e Q f => by
  unfold dSl at e
  split at e
  · split at e
    · rename_i h
      cases e; cases rx
      exact .inl ⟨_, rfl, slen h, f _ H (Evl.Ex.refl _) (sv_of _)⟩
    · cases e
  · split at e
    · rename_i xs hx
      cases e
      obtain ⟨p, vs, rfl, hs, r⟩ := asS_rep ok rx hx
      exact .inr ⟨p, vs, rfl, hs, fun l hl => f _ _ (Evl.Ex.new hl) ⟨l, _, rfl, ⟨upd_same, ok.fresh hl⟩, RepL.go (Fut.newO hl).go (cut_rep lo hi r)⟩⟩
    · cases e
end
end My
namespace My
open PySem PySem.Spec PyProof.Rows L2
section
variable {K : PySem.W.Frag} {A : List Addr} {M : Addr → Prop} {μ : Store} {H : Hp} {v w : V} {d : D} {xs ds : List D} {k : Nat} {te ta tb : TE} {m ma mb : Mo D} {tas : TA} {mas : Mo (List D)}
/-! ### built-in calls -/
def dLen (μ : Store) : List D → Option D
  | [.str l] => if l.length ≤ 100000 then some (.int l.length) else none
  | [x] => match asQ μ x with
    | some xs => some (.int xs.length)
    | none => none
  | _ => none
theorem cd_len : CbD K (rLenU K) dLen := fun A M μ H vs ds d ok r e Q f => by
  unfold dLen at e
  split at e
  · split at e
    · rename_i l h
      cases e
      obtain ⟨v, r', rfl, h1, rfl⟩ := r
      cases h1
      exact ⟨_, _, rfl, ⟨slen h, (SX.S_len l).symm⟩, f _ H (Evl.Ex.refl _) rfl⟩
    · cases e
  · split at e
    · rename_i xs hx
      cases e
      obtain ⟨v, r', rfl, h1, rfl⟩ := r
      obtain ⟨p, vs, rfl, hs, r⟩ := asQ_rep ok h1 hx
      refine ⟨_, xs.length, rfl, ?_, f _ H (Evl.Ex.refl _) rfl⟩
      rcases hs with hs | hs
      · exact .inl ⟨vs, hs, r.len.symm⟩
      · exact .inr ⟨vs, hs, r.len.symm⟩
    · cases e
  · cases e
def dInt (_ : Store) : List D → Option D
  | [.int i] => some (.int i)
  | [.bl b] => some (.int (if b then 1 else 0))
  | [.str l] => if l.length ≤ 640 then (PySem.intText? (SX.S l)).map .int else none
  | _ => none
theorem cd_int : CbD K rIntU dInt := fun A M μ H vs ds d ok r e Q f => by
  unfold dInt at e
  split at e
  · cases e
    obtain ⟨v, r', rfl, h1, rfl⟩ := r
    cases h1
    exact .inl (.inl ⟨_, rfl, f _ H (Evl.Ex.refl _) rfl⟩)
  · cases e
    obtain ⟨v, r', rfl, h1, rfl⟩ := r
    cases h1
    exact .inl (.inr ⟨_, rfl, f _ H (Evl.Ex.refl _) rfl⟩)
  · split at e
    · rename_i l h
      obtain ⟨i, e1, rfl⟩ := Option.map_eq_some_iff.mp e
      obtain ⟨v, r', rfl, h1, rfl⟩ := r
      cases h1
      exact .inr ⟨_, i, rfl, e1, by rw [SX.S_len]; exact h, f _ H (Evl.Ex.refl _) rfl⟩
    · cases e
  · cases e
def blsOf : List D → Option (List Bool)
  | [] => some []
  | .bl b :: r => (blsOf r).map (b :: ·)
  | _ => none
def intsOf : List D → Option (List Int)
  | [] => some []
  | .int b :: r => (intsOf r).map (b :: ·)
  | _ => none
def strsOf : List D → Option (List Codes)
  | [] => some []
  | .str b :: r => (strsOf r).map (b :: ·)
  | _ => none
theorem blsOf_rep : ∀ {ds : List D} {vs : List V} {bs : List Bool}, RepL K A M H vs ds → blsOf ds = some bs → vs = bs.map V.bl
  | [], _, _, r, e => by cases e; exact r
  | d :: ds, _, _, ⟨v, r', e1, h1, r⟩, e => by
    cases d with
    | bl b =>
      obtain ⟨cs, e2, rfl⟩ := Option.map_eq_some_iff.mp (show (blsOf ds).map (b :: ·) = _ from e)
      rw [e1, show v = _ from h1, blsOf_rep r e2]
      rfl
    | _ => cases e
theorem intsOf_rep : ∀ {ds : List D} {vs : List V} {bs : List Int}, RepL K A M H vs ds → intsOf ds = some bs → vs = bs.map V.int
  | [], _, _, r, e => by cases e; exact r
  | d :: ds, _, _, ⟨v, r', e1, h1, r⟩, e => by
    cases d with
    | int b =>
      obtain ⟨cs, e2, rfl⟩ := Option.map_eq_some_iff.mp (show (intsOf ds).map (b :: ·) = _ from e)
      rw [e1, show v = _ from h1, intsOf_rep r e2]
      rfl
    | _ => cases e
theorem strsOf_rep : ∀ {ds : List D} {vs : List V} {bs : List Codes}, RepL K A M H vs ds → strsOf ds = some bs → vs = bs.map sv
  | [], _, _, r, e => by cases e; exact r
  | d :: ds, _, _, ⟨v, r', e1, h1, r⟩, e => by
    cases d with
    | str b =>
      obtain ⟨cs, e2, rfl⟩ := Option.map_eq_some_iff.mp (show (strsOf ds).map (b :: ·) = _ from e)
      rw [e1, show v = _ from h1, strsOf_rep r e2]
      rfl
    | _ => cases e
@[simp] theorem blsOf_map : ∀ (bs : List Bool), blsOf (bs.map D.bl) = some bs
  | [] => rfl
  | b :: bs => by rw [List.map_cons, blsOf, blsOf_map]; rfl
@[simp] theorem intsOf_map : ∀ (bs : List Int), intsOf (bs.map D.int) = some bs
  | [] => rfl
  | b :: bs => by rw [List.map_cons, intsOf, intsOf_map]; rfl
@[simp] theorem strsOf_map : ∀ (bs : List Codes), strsOf (bs.map D.str) = some bs
  | [] => rfl
  | b :: bs => by rw [List.map_cons, strsOf, strsOf_map]; rfl
def dAll (μ : Store) : List D → Option D
  | [x] => match asS μ x with
    | some xs => (blsOf xs).map fun bs => .bl (bs.all id)
    | none => none
  | _ => none
def dAny (μ : Store) : List D → Option D
  | [x] => match asS μ x with
    | some xs => (blsOf xs).map fun bs => .bl (bs.any id)
    | none => none
  | _ => none
def dSum (μ : Store) : List D → Option D
  | [x] => match asS μ x with
    | some xs => (intsOf xs).map fun bs => .int bs.sum
    | none => none
  | _ => none
theorem cd_all : CbD K (rAll K) dAll := fun A M μ H vs ds d ok r e Q f => by
  unfold dAll at e
  split at e
  · split at e
    · rename_i hx
      obtain ⟨bs, e1, rfl⟩ := Option.map_eq_some_iff.mp e
      obtain ⟨v, r', rfl, h1, rfl⟩ := r
      obtain ⟨p, vs, rfl, hs, r⟩ := asS_rep ok h1 hx
      have := blsOf_rep r e1
      subst this
      exact ⟨p, bs, rfl, hs, f _ H (Evl.Ex.refl _) rfl⟩
    · cases e
  · cases e
theorem cd_any : CbD K (rAny K) dAny := fun A M μ H vs ds d ok r e Q f => by
  unfold dAny at e
  split at e
  · split at e
    · rename_i hx
      obtain ⟨bs, e1, rfl⟩ := Option.map_eq_some_iff.mp e
      obtain ⟨v, r', rfl, h1, rfl⟩ := r
      obtain ⟨p, vs, rfl, hs, r⟩ := asS_rep ok h1 hx
      have := blsOf_rep r e1
      subst this
      exact ⟨p, bs, rfl, hs, f _ H (Evl.Ex.refl _) rfl⟩
    · cases e
  · cases e
theorem cd_sum : CbD K (rSum K) dSum := fun A M μ H vs ds d ok r e Q f => by
  unfold dSum at e
  split at e
  · split at e
    · rename_i hx
      obtain ⟨bs, e1, rfl⟩ := Option.map_eq_some_iff.mp e
      obtain ⟨v, r', rfl, h1, rfl⟩ := r
      obtain ⟨p, vs, rfl, hs, r⟩ := asS_rep ok h1 hx
      have := intsOf_rep r e1
      subst this
      exact ⟨p, bs, rfl, hs, f _ H (Evl.Ex.refl _) rfl⟩
    · cases e
  · cases e
def dMax (_ : Store) : List D → Option D
  | [.int i, .int j] => some (.int (if j > i then j else i))
  | _ => none
def dMin (_ : Store) : List D → Option D
  | [.int i, .int j] => some (.int (if j < i then j else i))
  | _ => none
theorem cd_max : CbD K (fun xs H Q => ∃ i j, xs = [V.int i, .int j] ∧ Q (.int (if j > i then j else i)) H) dMax := fun A M μ H vs ds d ok r e Q f => by
  unfold dMax at e
  split at e
  · cases e
    obtain ⟨v, r', rfl, h1, w, r2, rfl, h2, rfl⟩ := r
    cases h1; cases h2
    exact ⟨_, _, rfl, f _ H (Evl.Ex.refl _) rfl⟩
  · cases e
theorem cd_min : CbD K (fun xs H Q => ∃ i j, xs = [V.int i, .int j] ∧ Q (.int (if j < i then j else i)) H) dMin := fun A M μ H vs ds d ok r e Q f => by
  unfold dMin at e
  split at e
  · cases e
    obtain ⟨v, r', rfl, h1, w, r2, rfl, h2, rfl⟩ := r
    cases h1; cases h2
    exact ⟨_, _, rfl, f _ H (Evl.Ex.refl _) rfl⟩
  · cases e
/-! ### isinstance of built-in classes -/
def tyN : D → Option String
  | .non => some "NoneType"
  | .bl _ => some "bool"
  | .int _ => some "int"
  | .str _ => some "str"
  | .tup _ => some "tuple"
  | .lst _ => some "list"
  | .dic _ _ _ => some "dict"
  | _ => none
theorem tyN_rep {n : String} (ok : Ok K A M μ H) (r : RepD K A M H v d) (e : tyN d = some n) : TyX K H v (.type n) := by
  cases d <;> try cases e
  · cases r; exact .base .non
  · cases r; exact .base (.bl _)
  · cases r; exact .base (.int _)
  · cases r; exact .base (.str _)
  · obtain ⟨p, vs, rfl, h, _⟩ := r
    rcases h with ⟨h | ⟨o, h⟩, _⟩ | h
    · exact .base (.tup h)
    · exact .fTuple h
    · rcases h (fun _ => none) with (z | ⟨_, z⟩) | ⟨o, its, n, h1, h2, _⟩
      · cases z
      · cases z
      · exact .kTuple h1 h2
  · obtain ⟨p, vs, rfl, h, _⟩ := r
    exact .base (.lst h.1)
  · rename_i t ks ds
    obtain ⟨p, vs, rfl, h, _⟩ := r
    cases t with
    | false => exact .base (.dK h.1)
    | true => exact .base (.dT h.1)
def isiN (a b : String) : Bool := a == b || (a == "bool" && b == "int")
def knownT : List String := ["NoneType", "bool", "int", "str", "tuple", "list", "dict"]
def knownC : List String := ["bool", "int", "str", "tuple", "list", "dict"]
theorem isiN_all : (knownT.all fun a => knownC.all fun b => kitB a b == some (isiN a b)) = true := by decide +kernel
theorem isiN_ok (a : String) (ha : a ∈ knownT) (b : String) (hb : b ∈ knownC) : PySem.W.kitOne K (.type a) (.type b) = some (isiN a b) :=
  kit_ty (beq_iff_eq.mp (List.all_eq_true.mp (List.all_eq_true.mp isiN_all a ha) b hb))
def dIsi (_ : Store) : List D → Option D
  | [x, .ty c] => match tyN x with
    | some t => if knownC.contains c = true then some (.bl (isiN t c)) else none
    | none => none
  | _ => none
theorem tyN_known {n : String} (e : tyN d = some n) : n ∈ knownT := by
  cases d <;> try (cases e; done)
  all_goals (cases e; simp [knownT])
theorem cd_isi : CbD K (rIsi K) dIsi := fun A M μ H vs ds d ok r e Q f => by
  unfold dIsi at e
  split at e
  · split at e
    · rename_i t ht
      split at e
      · rename_i hc
        cases e
        obtain ⟨v, r', rfl, h1, w, r2, rfl, h2, rfl⟩ := r
        cases h2
        exact ⟨v, _, _, _, _, rfl, .ty _, tyN_rep ok h1 ht, isiN_ok t (tyN_known ht) _ (by simpa using hc), f _ H (Evl.Ex.refl _) rfl⟩
      · cases e
    · cases e
  · cases e
/-! ### list(..), tuple(..) -/
def lList (μ : Store) : List D → Option (List D)
  | [x] => asQ μ x
  | _ => none
theorem cc_list : CcD K (rListU K) lList := fun A M μ H vs ds es ok r e Q f => by
  unfold lList at e
  split at e
  · obtain ⟨v, r', rfl, h1, rfl⟩ := r
    obtain ⟨p, vs, rfl, hs, r⟩ := asQ_rep ok h1 e
    exact ⟨p, vs, rfl, hs, fun l hl => f l vs hl r⟩
  · cases e
def dTuple (μ : Store) : List D → Option D
  | [.tup xs] => some (.tup xs)
  | [x] => match asS μ x with
    | some xs => some (.tup xs)
    | none => none
  | _ => none
theorem cd_tuple : CbD K (rTupU K) dTuple := fun A M μ H vs ds d ok r e Q f => by
  unfold dTuple at e
  split at e
  · cases e
    obtain ⟨v, r', rfl, h1, rfl⟩ := r
    obtain ⟨p, vs, rfl, h, r⟩ := h1
    exact ⟨p, vs, rfl, .inr ⟨h.sq, f _ H (Evl.Ex.refl _) ⟨p, vs, rfl, h, r⟩⟩⟩
  · split at e
    · rename_i hx
      cases e
      obtain ⟨v, r', rfl, h1, rfl⟩ := r
      obtain ⟨p, vs, rfl, hs, r⟩ := asS_rep ok h1 hx
      exact ⟨p, vs, rfl, .inl ⟨hs, fun l hl => f _ _ (Evl.Ex.new hl) ⟨l, vs, rfl, .of upd_same (ok.fresh hl), RepL.go (Fut.newO hl).go r⟩⟩⟩
    · cases e
  · cases e
/-! ### methods of texts -/
def dStrip (_ : Store) : D → List D → Option D
  | .str a, [.str b] => if a.length ≤ 100000 then some (.str (cs (Txt.stripChars (SX.S a) (SX.S b)))) else none
  | _, _ => none
theorem md_strip : MtD K rStripU dStrip := fun A M μ H x dx vs ds d ok rx r e Q f => by
  unfold dStrip at e
  split at e
  · split at e
    · rename_i h
      cases e; cases rx
      obtain ⟨v, r', rfl, h1, rfl⟩ := r
      cases h1
      exact ⟨_, _, rfl, rfl, slen h, f _ H (Evl.Ex.refl _) (sv_of _)⟩
    · cases e
  · cases e
def dLower (_ : Store) : D → List D → Option D
  | .str a, [] => if a.length ≤ 100000 ∧ a.all (· < 128) = true then some (.str (a.map PyProof.Rows.lo1)) else none
  | _, _ => none
theorem md_lower : MtD K rLowerU dLower := fun A M μ H x dx vs ds d ok rx r e Q f => by
  unfold dLower at e
  split at e
  · split at e
    · rename_i h
      cases e; cases rx; cases r
      exact ⟨_, rfl, rfl, by rw [SX.S_len]; omega, f _ H (Evl.Ex.refl _) (by show V.str _ = _; rw [SX.lower_S h.2])⟩
    · cases e
  · cases e
def dUpper (_ : Store) : D → List D → Option D
  | .str a, [] => if a.length ≤ 100000 ∧ a.all (· < 128) = true then some (.str (a.map PyProof.Rows.up1)) else none
  | _, _ => none
theorem md_upper : MtD K rUpperU dUpper := fun A M μ H x dx vs ds d ok rx r e Q f => by
  unfold dUpper at e
  split at e
  · split at e
    · rename_i h
      cases e; cases rx; cases r
      exact ⟨_, rfl, rfl, by rw [SX.S_len]; omega, f _ H (Evl.Ex.refl _) (by show V.str _ = _; rw [SX.upper_S h.2])⟩
    · cases e
  · cases e
def dFind (_ : Store) : D → List D → Option D
  | .str a, [.str b] => some (.int (Txt.find (SX.S a) (SX.S b)))
  | .str a, [.str b, .int i] => some (.int (fnd3 a b i))
  | _, _ => none
theorem md_find : MtD K rFindU dFind := fun A M μ H x dx vs ds d ok rx r e Q f => by
  unfold dFind at e
  split at e
  · cases e; cases rx
    obtain ⟨v, r', rfl, h1, rfl⟩ := r
    cases h1
    exact .inl ⟨_, _, rfl, rfl, f _ H (Evl.Ex.refl _) rfl⟩
  · cases e; cases rx
    obtain ⟨v, r', rfl, h1, w, r2, rfl, h2, rfl⟩ := r
    cases h1; cases h2
    exact .inr ⟨_, _, _, rfl, rfl, f _ H (Evl.Ex.refl _) rfl⟩
  · cases e
def dRemPre (_ : Store) : D → List D → Option D
  | .str a, [.str b] => if a.length ≤ 100000 then some (.str (cs (Txt.removeprefix (SX.S a) (SX.S b)))) else none
  | _, _ => none
theorem md_rempre : MtD K rRemPreU dRemPre := fun A M μ H x dx vs ds d ok rx r e Q f => by
  unfold dRemPre at e
  split at e
  · split at e
    · rename_i h
      cases e; cases rx
      obtain ⟨v, r', rfl, h1, rfl⟩ := r
      cases h1
      exact ⟨_, _, rfl, rfl, slen h, f _ H (Evl.Ex.refl _) (sv_of _)⟩
    · cases e
  · cases e
def lSplit (_ : Store) : D → List D → Option (List D)
  | .str a, [.str b] => if a.length ≤ 100000 ∧ b ≠ [] ∧ b.all (· < 256) = true then some ((TL.spl b 0 [] a).map D.str) else none
  | _, _ => none
theorem mc_split : McD K rSplitU lSplit := fun A M μ H x dx vs ds es ok rx r e Q f => by
  unfold lSplit at e
  split at e
  · split at e
    · rename_i a b h
      cases e; cases rx
      obtain ⟨v, r', rfl, h1, rfl⟩ := r
      cases h1
      refine ⟨_, _, rfl, rfl, ?_, ?_, fun l hl => ?_⟩
      · rw [SX.S_len]
        cases b with
        | nil => exact absurd rfl h.2.1
        | cons => rfl
      · rw [SX.S_len]
        exact Nat.le_trans (Nat.add_le_add_right h.1 2) (by decide)
      · rw [SX.split_S h.2.1 h.2.2, map_sv]
        exact f l _ hl (repL_strs _)
    · cases e
  · cases e
def dJoin (μ : Store) : D → List D → Option D
  | .str a, [x] => match asQ μ x with
    | some xs => match strsOf xs with
      | some ls => if (ls.map (·.length)).sum + ls.length * a.length ≤ 1000000 then some (.str (TL.joinL a ls)) else none
      | none => none
    | none => none
  | _, _ => none
theorem md_join : MtD K (rJoinU K) dJoin := fun A M μ H x dx vs ds d ok rx r e Q f => by
  unfold dJoin at e
  split at e
  · split at e
    · rename_i hx
      split at e
      · rename_i ls hls
        split at e
        · rename_i h
          cases e; cases rx
          obtain ⟨v, r', rfl, h1, rfl⟩ := r
          obtain ⟨p, vs, rfl, hs, r⟩ := asQ_rep ok h1 hx
          have := strsOf_rep r hls
          subst this
          refine ⟨_, p, ls.map SX.S, rfl, rfl, ?_, ?_, ?_⟩
          · rw [map_sv]; exact hs
          · rw [SX.lens, List.length_map, SX.S_len]
            exact Nat.le_trans h (by decide)
          · rw [SX.join_S]
            exact f _ H (Evl.Ex.refl _) rfl
        · cases e
      · cases e
    · cases e
  · cases e
/-! ### lists that change -/
def mApp (o e : Mo D) : Mo D := fun env μ => (o env μ).bind fun x μ0 => match x with
  | .ref k => if (cellOf μ0 k).isSome = true then (e env μ0).bind fun y μ1 => match cellOf μ1 k with
    | some ds => if pureD y = true ∧ ds.length < 100000 then .ok .non (μ1.set k (.lst (ds ++ [y]))) else .no
    | none => .no else .no
  | _ => .no
theorem tyV_cell {a : Addr} {k : Nat} {ds : List D} (ok : Ok K A M μ H) (ha : A[k]? = some a) (hc : cellOf μ k = some ds) : tyV K "list" (.ref a) H := by
  obtain ⟨vs, h1, _⟩ := cell_rep ok ha hc
  exact .inl ⟨rfl, vs, .inl (.inl h1)⟩
theorem d_app (h : EvD K ta ma) (h2 : EvD K tb mb) : EvD K (tBM K "list" rAppend ta (tCons tb tNil)) (mApp ma mb) := fun A M μ H σ env d μ' ok en e Q f => by
  obtain ⟨x, μ0, e1, e2⟩ := Rs.bind_ok e
  split at e2
  · rename_i k
    split at e2
    rotate_left
    · cases e2
    rename_i hcs
    obtain ⟨ds0, hc0⟩ := Option.isSome_iff_exists.mp hcs
    obtain ⟨y, μ1, e3, e4⟩ := Rs.bind_ok e2
    split at e4
    · rename_i ds hc
      split at e4
      · rename_i hp
        cases e4
        refine h A M μ H σ env _ μ0 ok en e1 _ fun v H1 A1 f1 ok1 r1 => ?_
        obtain ⟨a, rfl, ha⟩ := r1
        refine ⟨tyV_cell ok1 ha hc0, h2 A1 M μ0 H1 σ env y μ1 ok1 (en.go f1.go) e3 _ fun w H2 A2 f2 ok2 r2 => ?_⟩
        have ha2 := (f2.go (M := M)).ix _ _ ha
        obtain ⟨vs, h1, h2, h3⟩ := cell_rep ok2 ha2 hc
        obtain ⟨ok3, f3⟩ := ok2.cellSet (x := 0) (c := .lst (ds ++ [y])) ha2 (h2.app (.one r2)) (by show pureL (ds ++ [y]) = true; rw [pureL_app, h3, pureL, pureL, hp.1]; rfl) rfl
        exact ⟨a, vs, w, rfl, rfl, h1, Evl.sz_lt (by rw [h2.len]; exact hp.2), f _ _ A2 (f1.trans (f2.trans f3)) ok3 rfl⟩
      · cases e4
    · cases e4
  · cases e2
def mPop (o e : Mo D) : Mo D := fun env μ => (o env μ).bind fun x μ0 => match x with
  | .ref k => if (cellOf μ0 k).isSome = true then (e env μ0).bind fun y μ1 => match y, cellOf μ1 k with
    | .int i, some ds => if 0 ≤ i ∧ i < 100000 then (match ds[i.toNat]? with
      | some z => .ok z (μ1.set k (.lst (ds.eraseIdx i.toNat)))
      | none => .no) else .no
    | _, _ => .no else .no
  | _ => .no
theorem pureL_erase : ∀ {ds : List D} (i : Nat), pureL ds = true → pureL (ds.eraseIdx i) = true
  | [], _, h => h
  | _ :: _, 0, h => ((Bool.and_eq_true _ _).mp h).2
  | d :: ds, i + 1, h => (Bool.and_eq_true _ _).mpr ⟨((Bool.and_eq_true _ _).mp h).1, pureL_erase i ((Bool.and_eq_true _ _).mp h).2⟩
theorem pureL_get : ∀ {ds : List D} {i : Nat} {d : D}, pureL ds = true → ds[i]? = some d → pureD d = true
  | [], _, _, _, e => nomatch e
  | _ :: _, 0, _, h, e => by cases e; exact ((Bool.and_eq_true _ _).mp h).1
  | d :: ds, i + 1, _, h, e => pureL_get (i := i) ((Bool.and_eq_true _ _).mp h).2 e
theorem d_pop (h : EvD K ta ma) (h2 : EvD K tb mb) : EvD K (tBM K "list" rPopAt ta (tCons tb tNil)) (mPop ma mb) := fun A M μ H σ env d μ' ok en e Q f => by
  obtain ⟨x, μ0, e1, e2⟩ := Rs.bind_ok e
  split at e2
  · rename_i k
    split at e2
    rotate_left
    · cases e2
    rename_i hcs
    obtain ⟨ds0, hc0⟩ := Option.isSome_iff_exists.mp hcs
    obtain ⟨y, μ1, e3, e4⟩ := Rs.bind_ok e2
    split at e4
    · rename_i i ds hc
      split at e4
      · rename_i hi
        split at e4
        · rename_i z hz
          cases e4
          refine h A M μ H σ env _ μ0 ok en e1 _ fun v H1 A1 f1 ok1 r1 => ?_
          obtain ⟨a, rfl, ha⟩ := r1
          refine ⟨tyV_cell ok1 ha hc0, h2 A1 M μ0 H1 σ env _ μ1 ok1 (en.go f1.go) e3 _ fun w H2 A2 f2 ok2 r2 => ?_⟩
          cases r2
          have ha2 := (f2.go (M := M)).ix _ _ ha
          obtain ⟨vs, h1, h2, h3⟩ := cell_rep ok2 ha2 hc
          obtain ⟨ok3, f3⟩ := ok2.cellSet (x := 0) (c := .lst (ds.eraseIdx i.toNat)) ha2 (h2.erase i.toNat) (pureL_erase _ h3) rfl
          obtain ⟨u, hu, ru⟩ := h2.get hz
          have hl := (List.getElem?_eq_some_iff.mp hz).1
          refine ⟨a, vs, i, i.toNat, u, rfl, rfl, h1, by omega, by omega, ?_, hu, f _ _ A2 (f1.trans (f2.trans f3)) ok3 (RepD.go f3.go ru)⟩
          unfold seqIndex?
          have hr2 : ¬ i < 0 := by omega
          simp only [h2.len, hr2, if_false]
          rw [if_pos (by rw [Bool.and_eq_true, decide_eq_true_eq, decide_eq_true_eq]; omega)]
        · cases e4
      · cases e4
    · cases e4
  · cases e2
/-- xs[j] = e -/
def sSetIx (e o i : Mo D) : MS := fun env μ => match e env μ with
  | .ok y μ0 => (match o env μ0 with
    | .ok (.ref k) μ1 => (match i env μ1 with
      | .ok (.int j) μ2 => (match cellOf μ2 k with
        | some ds => if pureD y = true ∧ 0 ≤ j ∧ j.toNat < ds.length then .nx env (μ2.set k (.lst (ds.set j.toNat y))) else .no
        | none => .no)
      | _ => .no)
    | _ => .no)
  | _ => .no
theorem pureL_set : ∀ {ds : List D} (i : Nat) {d : D}, pureL ds = true → pureD d = true → pureL (ds.set i d) = true
  | [], _, _, h, _ => h
  | _ :: _, 0, _, h, q => (Bool.and_eq_true _ _).mpr ⟨q, ((Bool.and_eq_true _ _).mp h).2⟩
  | d :: ds, i + 1, _, h, q => (Bool.and_eq_true _ _).mpr ⟨((Bool.and_eq_true _ _).mp h).1, pureL_set i ((Bool.and_eq_true _ _).mp h).2 q⟩
theorem t_setIx {mi : Mo D} {ti : TE} (h : EvD K te m) (ho : EvD K ta ma) (hi : EvD K ti mi) : StD K W (tAsg te (gSub ta ti rSetL)) (sSetIx m ma mi) := fun A M μ H σ env E ok en p => by
  unfold sSetIx at p
  cases e : m env μ with
  | no => rw [e] at p; exact p.elim
  | rz => rw [e] at p; exact p.elim
  | ok y μ0 =>
    rw [e] at p
    dsimp only at p
    refine h A M μ H σ env y μ0 ok en e _ fun v H1 A1 f1 ok1 r1 => ?_
    split at p
    · rename_i k μ1 e1
      refine ho A1 M μ0 H1 σ env _ _ ok1 (en.go f1.go) e1 _ fun w H2 A2 f2 ok2 r2 => ?_
      obtain ⟨a, rfl, ha⟩ := r2
      split at p
      · rename_i j μ2 e2
        refine hi A2 M _ H2 σ env _ _ ok2 (en.go (f1.trans f2).go) e2 _ fun u H3 A3 f3 ok3 r3 => ?_
        cases r3
        split at p
        · rename_i ds hc
          split at p
          · rename_i hp
            have ha3 := (f3.go (M := M)).ix _ _ ha
            obtain ⟨vs, h1, h2, h3⟩ := cell_rep ok3 ha3 hc
            obtain ⟨ok4, f4⟩ := ok3.cellSet (x := 0) (c := .lst (ds.set j.toNat y)) ha3 (h2.set j.toNat (RepD.go (f2.trans f3).go r1)) (pureL_set _ h3 hp.1) rfl
            have fu := (f1.trans f2).trans (f3.trans f4)
            refine ⟨a, vs, j, j.toNat, rfl, rfl, h1, ?_, p σ _ A3 fu ok4 (en.go fu.go)⟩
            have := hp.2.2
            have e3 : (j.toNat : Int) = j := Int.toNat_of_nonneg hp.2.1
            rw [← e3, Int.toNat_natCast]
            exact Evl.ixN_nat (by rw [h2.len]; omega)
          · exact p.elim
        · exact p.elim
      · exact p.elim
    · exact p.elim
/-! ### what is walked -/
def itemsOf (μ : Store) : D → Option (List D × Gd)
  | .lst xs => some (xs, none)
  | .wl xs => some (xs, none)
  | .tup xs => some (xs, none)
  | .str l => some (l.map fun c => .str [c], none)
  | .ref k => match cellOf μ k with
    | some xs => some (xs, some (k, xs))
    | none => none
  | _ => none
def mIter (m : Mo D) : Mo (List D × Gd) := fun env μ => (m env μ).bind fun d μ1 => Rs.of (itemsOf μ1 d) μ1
theorem it_seq {J : It} {A1 : List Addr} {H1 : Hp} {vs : List V} {p : Addr} (hJ : J = Itl K p) (hr : SqM K (AM A1 M) H1 p vs) (r : RepL K A1 M H1 vs xs) : ItOkD K J xs none A1 M H1 := by
  subst hJ
  have carry : ∀ {A' : List Addr} {M' : Addr → Prop} {H' : Hp}, (∀ a, M' a → M a ∨ H1 a = none) → Fut A1 H1 A' H' → Go A1 M H1 A' M' H' := fun {A' M' H'} hm fu => ⟨(fu.go (M := M)).ix, fun a z => by
    rcases z with z | z
    · exact (fu.go (M := M)).new a (.inl z)
    · exact (hm a z).imp .inr id, (fu.go (M := M)).pr⟩
  have sq : ∀ {A' : List Addr} {M' : Addr → Prop} {H' : Hp}, (∀ a, M' a → M a ∨ H1 a = none) → Fut A1 H1 A' H' → SqL K H' p vs := fun {A' M' H'} hm fu => (show SqM K (AM A' M') H' p vs from hr.imp (carry hm fu).rd id).sq
  refine ⟨fun i A' M' μ' H' hm fu ok _ hi => ?_, fun i A' M' μ' H' x H'' d hm fu ok _ hi hy => ?_, fun A' M' μ' H' hm fu ok _ => ?_⟩
  · exact ⟨vs, _, sq hm fu, List.getElem?_eq_getElem (by rw [r.len]; exact hi)⟩
  · obtain ⟨rfl, hx⟩ := hy
    refine ⟨Evl.Ex.refl _, ?_⟩
    obtain ⟨u, hu, ru⟩ := (RepL.go (carry hm fu) r).get hi
    rw [hx vs (sq hm fu)] at hu
    cases hu
    exact ru
  · exact ⟨vs, sq hm fu, by rw [r.len]; exact Nat.le_refl _⟩
theorem it_seqT {J : It} {A1 : List Addr} {H1 : Hp} {vs : List V} {p : Addr} (hJ : J = Itt K p) (hr : StM K (AM A1 M) H1 p vs) (r : RepL K A1 M H1 vs xs) : ItOkD K J xs none A1 M H1 := by
  subst hJ
  have carry : ∀ {A' : List Addr} {M' : Addr → Prop} {H' : Hp}, (∀ a, M' a → M a ∨ H1 a = none) → Fut A1 H1 A' H' → Go A1 M H1 A' M' H' := fun {A' M' H'} hm fu => ⟨(fu.go (M := M)).ix, fun a z => by
    rcases z with z | z
    · exact (fu.go (M := M)).new a (.inl z)
    · exact (hm a z).imp .inr id, (fu.go (M := M)).pr⟩
  have sq : ∀ {A' : List Addr} {M' : Addr → Prop} {H' : Hp}, (∀ a, M' a → M a ∨ H1 a = none) → Fut A1 H1 A' H' → SqT K H' p vs := fun {A' M' H'} hm fu => (show StM K (AM A' M') H' p vs from hr.imp (carry hm fu).rd id).sq
  refine ⟨fun i A' M' μ' H' hm fu ok _ hi => ?_, fun i A' M' μ' H' x H'' d hm fu ok _ hi hy => ?_, fun A' M' μ' H' hm fu ok _ => ?_⟩
  · exact ⟨vs, _, sq hm fu, List.getElem?_eq_getElem (by rw [r.len]; exact hi)⟩
  · obtain ⟨rfl, hx⟩ := hy
    refine ⟨Evl.Ex.refl _, ?_⟩
    obtain ⟨u, hu, ru⟩ := (RepL.go (carry hm fu) r).get hi
    rw [hx vs (sq hm fu)] at hu
    cases hu
    exact ru
  · exact ⟨vs, sq hm fu, by rw [r.len]; exact Nat.le_refl _⟩
theorem gd_cell {A' : List Addr} {M' : Addr → Prop} {μ' : Store} {H' : Hp} {a : Addr} (ok : Ok K A' M' μ' H') (ha : A'[k]? = some a) (hg : gdOk (some (k, xs)) μ' = true) : ∃ vs, H' a = some (.lst vs) ∧ RepL K A' M' H' vs xs := by
  unfold gdOk at hg
  dsimp only at hg
  split at hg
  · rename_i es he
    have := D.beqL_eq hg
    subst this
    obtain ⟨x, vs, h1, h2, _⟩ := ok.rep k a _ ha he
    exact ⟨vs, h1, h2⟩
  · cases hg
theorem i_any (h : EvD K te m) : ItD K (iAny K te) (mIter m) := fun A M μ H σ env items gd μ' ok en e R f => by
  obtain ⟨d, μ1, e1, e2⟩ := Rs.bind_ok e
  obtain ⟨e3, rfl⟩ := Rs.of_ok e2
  unfold itemsOf at e3
  split at e3
  · cases e3
    exact .inl (h A M μ H σ env _ _ ok en e1 _ fun v H1 A1 f1 ok1 ⟨p, vs, e, hl, r⟩ => ⟨p, e, ⟨vs, hl.sq⟩, f _ H1 A1 f1 ok1 (it_seq rfl hl.sqm r)⟩)
  · cases e3
    exact .inl (h A M μ H σ env _ _ ok en e1 _ fun v H1 A1 f1 ok1 ⟨p, vs, e, hl, r⟩ => ⟨p, e, ⟨vs, hl.sq⟩, f _ H1 A1 f1 ok1 (it_seq rfl hl r)⟩)
  · cases e3
    exact .inr (.inl (h A M μ H σ env _ _ ok en e1 _ fun v H1 A1 f1 ok1 ⟨p, vs, e, hl, r⟩ => ⟨p, e, ⟨vs, hl.sq⟩, f _ H1 A1 f1 ok1 (it_seqT rfl hl r)⟩))
  · rename_i l
    cases e3
    refine .inr (.inr (h A M μ H σ env _ _ ok en e1 _ fun v H1 A1 f1 ok1 r => ⟨SX.S l, r, f _ H1 A1 f1 ok1 ?_⟩))
    have sz : (SX.S l).cps.size = l.length := by simp [SX.S]
    refine ⟨fun i A' M' μ' H' hm fu ok _ hi => ?_, fun i A' M' μ' H' x H'' d hm fu ok _ hi hy => ?_, fun A' M' μ' H' hm fu ok _ => ?_⟩
    · rw [List.length_map] at hi
      show i < (SX.S l).cps.size
      rw [sz]
      exact hi
    · obtain ⟨rfl, c, hc, rfl⟩ := hy
      refine ⟨Evl.Ex.refl _, ?_⟩
      have hc2 : l[i]? = some c := by
        rw [← hc]
        simp [SX.S]
      rw [List.getElem?_map, hc2] at hi
      cases hi
      rfl
    · show (SX.S l).cps.size ≤ _
      rw [sz, List.length_map]
      exact Nat.le_refl _
  · split at e3
    · rename_i k xs hc
      cases e3
      refine .inl (h A M μ H σ env _ _ ok en e1 _ fun v H1 A1 f1 ok1 r => ?_)
      obtain ⟨a, rfl, ha⟩ := r
      obtain ⟨vs, h1, h2, _⟩ := cell_rep ok1 ha hc
      refine ⟨a, rfl, ⟨vs, .inl (.inl h1)⟩, f _ H1 A1 f1 ok1 ⟨fun i A' M' μ' H' hm fu ok hg hi => ?_, fun i A' M' μ' H' x H'' d hm fu ok hg hi hy => ?_, fun A' M' μ' H' hm fu ok hg => ?_⟩⟩
      · obtain ⟨ws, g1, g2⟩ := gd_cell ok ((fu.go (M := M)).ix _ _ ha) hg
        exact ⟨ws, _, .inl (.inl g1), List.getElem?_eq_getElem (by rw [g2.len]; exact hi)⟩
      · obtain ⟨ws, g1, g2⟩ := gd_cell ok ((fu.go (M := M)).ix _ _ ha) hg
        obtain ⟨rfl, hx⟩ := hy
        refine ⟨Evl.Ex.refl _, ?_⟩
        obtain ⟨u, hu, ru⟩ := g2.get hi
        rw [hx ws (.inl (.inl g1))] at hu
        cases hu
        exact ru
      · obtain ⟨ws, g1, g2⟩ := gd_cell ok ((fu.go (M := M)).ix _ _ ha) hg
        exact ⟨ws, .inl (.inl g1), by rw [g2.len]; exact Nat.le_refl _⟩
    · cases e3
  · cases e3
def rngL (lo : Int) (n : Nat) : List D := (List.range n).map fun (i : Nat) => .int (lo + (i : Int))
def mRange1 (m : Mo (List D)) : Mo (List D × Gd) := fun env μ => (m env μ).bind fun ds μ1 => match ds with
  | [.int j] => if -1000000 ≤ j ∧ j ≤ 1000000 then .ok (rngL 0 j.toNat, none) μ1 else .no
  | _ => .no
def mRange2 (m : Mo (List D)) : Mo (List D × Gd) := fun env μ => (m env μ).bind fun ds μ1 => match ds with
  | [.int i, .int j] => if -1000000 ≤ j ∧ j ≤ 1000000 ∧ -1000000 ≤ i ∧ i ≤ 1000000 then .ok (rngL i (j - i).toNat, none) μ1 else .no
  | _ => .no
theorem it_rng {A1 : List Addr} {H1 : Hp} {lo : Int} {n : Nat} : ItOkD K (Itr lo n) (rngL lo n) none A1 M H1 := by
  have hl : (rngL lo n).length = n := by simp [rngL]
  refine ⟨fun i A' M' μ' H' hm fu ok _ hi => ?_, fun i A' M' μ' H' x H'' d hm fu ok _ hi hy => ?_, fun A' M' μ' H' hm fu ok _ => ?_⟩
  · rw [hl] at hi
    exact hi
  · obtain ⟨rfl, rfl⟩ := hy
    refine ⟨Evl.Ex.refl _, ?_⟩
    have hlt := (List.getElem?_eq_some_iff.mp hi).1
    rw [hl] at hlt
    unfold rngL at hi
    rw [List.getElem?_map, List.getElem?_range hlt] at hi
    cases hi
    rfl
  · show n ≤ _
    rw [hl]
    exact Nat.le_refl _
theorem i_range1 (h : EvS K tas mas) : ItD K (iRng1 tas) (mRange1 mas) := fun A M μ H σ env items gd μ' ok en e R f => by
  obtain ⟨ds, μ1, e1, e2⟩ := Rs.bind_ok e
  split at e2
  · split at e2
    · rename_i hj
      cases e2
      refine h A M μ H σ env _ _ ok en e1 _ fun vs H1 A1 f1 ok1 r => ?_
      obtain ⟨v, r', rfl, h1, rfl⟩ := r
      cases h1
      exact ⟨_, rfl, by omega, by omega, f _ H1 A1 f1 ok1 it_rng⟩
    · cases e2
  · cases e2
theorem i_range2 (h : EvS K tas mas) : ItD K (iRng2 tas) (mRange2 mas) := fun A M μ H σ env items gd μ' ok en e R f => by
  obtain ⟨ds, μ1, e1, e2⟩ := Rs.bind_ok e
  split at e2
  · split at e2
    · rename_i hj
      cases e2
      refine h A M μ H σ env _ _ ok en e1 _ fun vs H1 A1 f1 ok1 r => ?_
      obtain ⟨v, r', rfl, h1, w, r2, rfl, h2, rfl⟩ := r
      cases h1; cases h2
      exact ⟨_, _, rfl, by omega, f _ H1 A1 f1 ok1 it_rng⟩
    · cases e2
  · cases e2
def enumL (xs : List D) : List D := (List.range xs.length).map fun i => .tup [.int (i : Nat), xs.getD i .non]
def mEnum (m : Mo (List D)) : Mo (List D × Gd) := fun env μ => (m env μ).bind fun ds μ1 => match ds with
  | [.str l] => .ok (enumL (l.map fun c => .str [c]), none) μ1
  | [.lst xs] => .ok (enumL xs, none) μ1
  | _ => .no
theorem i_enum (h : EvS K tas mas) : ItD K (iEnumU K tas) (mEnum mas) := fun A M μ H σ env items gd μ' ok en e R f => by
  obtain ⟨ds, μ1, e1, e2⟩ := Rs.bind_ok e
  split at e2
  · rename_i l
    cases e2
    refine .inl (h A M μ H σ env _ _ ok en e1 _ fun vs H1 A1 f1 ok1 r => ?_)
    obtain ⟨v, r', rfl, h1, rfl⟩ := r
    cases h1
    refine ⟨_, rfl, f _ H1 A1 f1 ok1 ?_⟩
    have sz : (SX.S l).cps.size = l.length := by simp [SX.S]
    have hl : (enumL (l.map fun c => D.str [c])).length = l.length := by simp [enumL]
    refine ⟨fun i A' M' μ' H' hm fu ok _ hi => ?_, fun i A' M' μ' H' x H'' d hm fu ok _ hi hy => ?_, fun A' M' μ' H' hm fu ok _ => ?_⟩
    · rw [hl] at hi
      show i < (SX.S l).cps.size
      rw [sz]
      exact hi
    · obtain ⟨T, c, rfl, hT, rfl, hc⟩ := hy
      refine ⟨Evl.Ex.new hT, ?_⟩
      have hc2 : l[i]? = some c := by
        rw [← hc]
        simp [SX.S]
      have hlt := (List.getElem?_eq_some_iff.mp hc2).1
      unfold enumL at hi
      rw [List.length_map, List.getElem?_map, List.getElem?_range hlt] at hi
      cases hi
      refine ⟨T, _, rfl, .of upd_same (ok.fresh hT), _, _, rfl, rfl, _, _, rfl, ?_, rfl⟩
      rw [List.getD_eq_getElem?_getD, List.getElem?_map, hc2]
      rfl
    · show (SX.S l).cps.size ≤ _
      rw [sz, hl]
      exact Nat.le_refl _
  · rename_i xs
    cases e2
    refine .inr (h A M μ H σ env _ _ ok en e1 _ fun vs H1 A1 f1 ok1 r => ?_)
    obtain ⟨v, r', rfl, h1, rfl⟩ := r
    obtain ⟨p, vs, rfl, hr, r⟩ := h1
    refine ⟨p, vs, rfl, hr.sq, f _ H1 A1 f1 ok1 ?_⟩
    have hl : (enumL xs).length = xs.length := by simp [enumL]
    have carry : ∀ {A' : List Addr} {M' : Addr → Prop} {H' : Hp}, (∀ a, M' a → M a ∨ H1 a = none) → Fut A1 H1 A' H' → Go A1 M H1 A' M' H' := fun {A' M' H'} hm fu => ⟨(fu.go (M := M)).ix, fun a z => by
      rcases z with z | z
      · exact (fu.go (M := M)).new a (.inl z)
      · exact (hm a z).imp .inr id, (fu.go (M := M)).pr⟩
    have sq : ∀ {A' : List Addr} {M' : Addr → Prop} {H' : Hp}, (∀ a, M' a → M a ∨ H1 a = none) → Fut A1 H1 A' H' → SqL K H' p vs := fun {A' M' H'} hm fu => .inl (.inl ((carry hm fu).pr _ _ hr.2 hr.1))
    refine ⟨fun i A' M' μ' H' hm fu ok _ hi => ?_, fun i A' M' μ' H' x H'' d hm fu ok _ hi hy => ?_, fun A' M' μ' H' hm fu ok _ => ?_⟩
    · rw [hl] at hi
      exact ⟨vs, _, sq hm fu, List.getElem?_eq_getElem (by rw [r.len]; exact hi)⟩
    · obtain ⟨T, u, rfl, hT, rfl, hu⟩ := hy
      refine ⟨Evl.Ex.new hT, ?_⟩
      have hlt := (List.getElem?_eq_some_iff.mp hi).1
      rw [hl] at hlt
      unfold enumL at hi
      rw [List.getElem?_map, List.getElem?_range hlt] at hi
      cases hi
      obtain ⟨u', hu', ru⟩ := (RepL.go (carry hm fu) r).get (List.getElem?_eq_getElem hlt)
      rw [hu vs (sq hm fu)] at hu'
      cases hu'
      refine ⟨T, _, rfl, .of upd_same (ok.fresh hT), _, _, rfl, rfl, _, _, rfl, ?_, rfl⟩
      rw [List.getD_eq_getElem?_getD, List.getElem?_eq_getElem hlt]
      exact RepD.go (Fut.newO hT).go ru
    · exact ⟨vs, sq hm fu, by rw [hl, r.len]; exact Nat.le_refl _⟩
  · cases e2
end
end My
namespace My
open PySem PySem.Spec PyProof.Rows L2
/-! ### defs by their model -/
def modSp (K : PySem.W.Frag) (m : List D → Store → Rs D) : Sp := fun vs H Q _ => ∃ (A : List Addr) (M : Addr → Prop) (μ : Store) (ds : List D) (d : D) (μ' : Store), Ok K A M μ H ∧ RepL K A M H vs ds ∧ m ds μ = .ok d μ' ∧
  ∀ v H' A', Fut A H A' H' → Ok K A' M μ' H' → RepD K A' M H' v d → Q v H'
def mCall (m : List D → Store → Rs D) (ma : Mo (List D)) : Mo D := fun env μ => (ma env μ).bind fun ds μ1 => m ds μ1
section
variable {K : PySem.W.Frag} {A B : List Addr} {M : Addr → Prop} {μ μ' : Store} {H H' : Hp} {v w : V} {d : D} {vs : List V} {xs ds : List D} {k : Nat} {tas : TA} {mas : Mo (List D)} {m : List D → Store → Rs D}
theorem d_call (h : EvS K tas mas) : EvD K (tCall (modSp K m) [] E0 tas) (mCall m mas) := fun A M μ H σ env d μ' ok en e Q f => by
  obtain ⟨ds, μ1, e1, e2⟩ := Rs.bind_ok e
  refine h A M μ H σ env ds μ1 ok en e1 _ fun vs H1 A1 f1 ok1 r1 => ?_
  refine ⟨A1, M, μ1, ds, d, μ', ok1, by rw [List.append_nil]; exact r1, e2, fun v H2 A2 f2 ok2 r2 => f v H2 A2 (f1.trans f2) ok2 r2⟩
theorem RepL.paired : ∀ {ds : List D} {vs : List V}, RepL K A M H vs ds → Paired (RepD K A M H) vs ds
  | [], _, h => by rw [show _ = [] from h]; exact .nil
  | _ :: _, _, ⟨v, r, e, h, t⟩ => by rw [e]; exact .cons h (RepL.paired t)
theorem RepL.of_paired : ∀ {ds : List D} {vs : List V}, Paired (RepD K A M H) vs ds → RepL K A M H vs ds
  | _, _, .nil => rfl
  | _, _, .cons a b => ⟨_, _, rfl, a, RepL.of_paired b⟩
def mCallK (n : Nat) (m : List D → Store → Rs D) (js : List Nat) (ma : Mo (List D)) : Mo D := fun env μ => (ma env μ).bind fun ds μ1 => if ds.length = n then m (perm js ds) μ1 else .no
theorem d_callK {n : Nat} {js : List Nat} (h : EvS K tas mas) : EvD K (tCallK0 n (modSp K m) js tas) (mCallK n m js mas) := fun A M μ H σ env d μ' ok en e Q f => by
  obtain ⟨ds, μ1, e1, e2⟩ := Rs.bind_ok e
  split at e2
  · rename_i hn
    refine h A M μ H σ env ds μ1 ok en e1 _ fun vs H1 A1 f1 ok1 r1 => ⟨by rw [r1.len]; exact hn, ?_⟩
    exact ⟨A1, M, μ1, perm js ds, d, μ', ok1, RepL.of_paired (perm_rel r1.paired js), e2, fun v H2 A2 f2 ok2 r2 => f v H2 A2 (f1.trans f2) ok2 r2⟩
  · cases e2
/-! what is handed back -/
mutual
def undD (n : Nat) : D → Bool
  | .tup ds => undL n ds
  | .lst ds => undL n ds
  | .wl ds => undL n ds
  | .ref k => decide (k < n)
  | .obj _ _ ds => undL n ds
  | .dic _ _ ds => undL n ds
  | .err _ _ ds => undL n ds
  | _ => true
def undL (n : Nat) : List D → Bool
  | [] => true
  | d :: ds => undD n d && undL n ds
end
mutual
theorem RepD.low : ∀ {d : D} {v : V}, undD A.length d = true → RepD K (A ++ B) M H v d → RepD K A M H v d
  | .non, _, _, h => h
  | .bl _, _, _, h => h
  | .int _, _, _, h => h
  | .str _, _, _, h => h
  | .ty _, _, _, h => h
  | .tup _, _, q, ⟨p, vs, e, h, r⟩ => ⟨p, vs, e, h.imp (fun h => ⟨h.1, fun z => h.2 (z.imp (fun z => List.mem_append_left _ z) id)⟩) id, RepL.low q r⟩
  | .lst _, _, q, ⟨p, vs, e, h, r⟩ => ⟨p, vs, e, ⟨h.1, fun z => h.2 (z.imp (fun z => List.mem_append_left _ z) id)⟩, RepL.low q r⟩
  | .wl _, _, q, ⟨p, vs, e, h, r⟩ => ⟨p, vs, e, h.imp (fun h => ⟨h.1, fun z => h.2 (z.imp (fun z => List.mem_append_left _ z) id)⟩) id, RepL.low q r⟩
  | .ref k, _, q, ⟨a, e, h⟩ => ⟨a, e, by rw [List.getElem?_append_left (of_decide_eq_true q)] at h; exact h⟩
  | .cls _, _, _, h => h
  | .obj _ _ _, _, q, ⟨p, x, vs, e, h, l, r⟩ => ⟨p, x, vs, e, ⟨h.1, fun z => h.2 (z.imp (fun z => List.mem_append_left _ z) id)⟩, l, RepL.low q r⟩
  | .dic _ _ _, _, q, ⟨p, vs, e, h, l, r⟩ => ⟨p, vs, e, ⟨h.1, fun z => h.2 (z.imp (fun z => List.mem_append_left _ z) id)⟩, l, RepL.low q r⟩
  | .err _ _ _, _, q, ⟨p, od, vs, e, h, hq, l0, l, r⟩ => ⟨p, od, vs, e, ⟨h.1, fun z => h.2 (z.imp (fun z => List.mem_append_left _ z) id)⟩, fun q z => ⟨(hq q z).1, fun y => (hq q z).2 (y.imp (fun z => List.mem_append_left _ z) id)⟩, l0, l, RepL.low q r⟩
theorem RepL.low : ∀ {ds : List D} {vs : List V}, undL A.length ds = true → RepL K (A ++ B) M H vs ds → RepL K A M H vs ds
  | [], _, _, h => h
  | _ :: _, _, q, ⟨v, r, e, h, t⟩ => ⟨v, r, e, RepD.low ((Bool.and_eq_true _ _).mp q).1 h, RepL.low ((Bool.and_eq_true _ _).mp q).2 t⟩
end
mutual
theorem und_of_pure (n : Nat) : ∀ {d : D}, pureD d = true → undD n d = true
  | .non, _ => rfl
  | .bl _, _ => rfl
  | .int _, _ => rfl
  | .str _, _ => rfl
  | .ty _, _ => rfl
  | .tup _, h => undL_of_pure n h
  | .lst _, h => undL_of_pure n h
  | .wl _, h => undL_of_pure n h
  | .ref _, h => nomatch h
  | .cls _, _ => rfl
  | .obj _ _ _, h => undL_of_pure n h
  | .dic _ _ _, h => undL_of_pure n h
  | .err _ _ _, h => undL_of_pure n h
theorem undL_of_pure (n : Nat) : ∀ {ds : List D}, pureL ds = true → undL n ds = true
  | [], _ => rfl
  | _ :: _, h => (Bool.and_eq_true _ _).mpr ⟨und_of_pure n ((Bool.and_eq_true _ _).mp h).1, undL_of_pure n ((Bool.and_eq_true _ _).mp h).2⟩
end
def frzC : Cell → D
  | .lst ds => .lst ds
  | .obj c ns ds => .obj c ns ds
  | .dic t ks ds => .dic t ks ds
theorem frz_rep {a : Addr} {c : Cell} {A' : List Addr} (h : CellRep K A' M H a c) (na : ¬ AM A M a) (lo : ∀ {vs : List V} {ds : List D}, pureL ds = true → RepL K A' M H vs ds → RepL K A M H vs ds) : RepD K A M H (.ref a) (frzC c) := by
  obtain ⟨x, vs, h1, h2, h3, h4⟩ := h
  cases c with
  | lst ds => exact ⟨a, vs, rfl, ⟨h1, na⟩, lo h3 h2⟩
  | obj c ns ds =>
    have e := beq_iff_eq.mp (show (ns.length == ds.length) = true from h4)
    exact ⟨a, x, vs, rfl, ⟨h1, na⟩, e.trans h2.len.symm, lo h3 h2⟩
  | dic t ks ds =>
    obtain ⟨g1, g2⟩ := (Bool.and_eq_true _ _).mp (show (ks.length == ds.length && keysOk t ks) = true from h4)
    exact ⟨a, vs, rfl, ⟨h1, na⟩, ⟨(beq_iff_eq.mp g1).trans h2.len.symm, g2⟩, lo h3 h2⟩
def finD (n : Nat) (d : D) (μ' : Store) : Rs D := match d with
  | .ref k => if k < n then .ok (.ref k) (μ'.take n) else (match μ'[k]? with
    | some c => .ok (frzC c) (μ'.take n)
    | none => .no)
  | d => if undD n d = true then .ok d (μ'.take n) else .no
def fnD (np nl : Nat) (body : MS) : List D → Store → Rs D := fun ds μ => if ds.length = np then (match body (ds.map some ++ List.replicate nl none) μ with
  | .nx _ μ' => .ok .non (μ'.take μ.length)
  | .rt d μ' => finD μ.length d μ'
  | _ => .no) else .no
def fnK (np nl : Nat) (body : MS) : List D → Store → Rs D := fun ds μ => if ds.length = np then (match body (ds.map some ++ List.replicate nl none) μ with
  | .nx _ μ' => .ok .non μ'
  | .rt d μ' => .ok d μ'
  | _ => .no) else .no
theorem env_start {N : List Str} {nl : Nat} (r : RepL K A M H vs ds) (hN : N.length = ds.length + nl) : EnvRep K A M H (start N vs) (ds.map some ++ List.replicate nl none) := by
  unfold L2.start
  rw [r.len, hN, Nat.add_sub_cancel_left]
  have h1 : ∀ {ds : List D} {vs : List V}, RepL K A M H vs ds → ∀ {x : L2.St} {y : En}, Paired (RepO K A M H) x y → Paired (RepO K A M H) (vs.map some ++ x) (ds.map some ++ y) := by
    intro ds
    induction ds with
    | nil => intro vs h x y p; rw [show vs = [] from h]; exact p
    | cons d ds ih =>
      rintro vs ⟨v, r, rfl, h, t⟩ x y p
      exact .cons h (ih t p)
  refine h1 r ?_
  clear hN
  induction nl with
  | zero => exact .nil
  | succ n ih => exact .cons trivial ih
theorem fin_rep {A' : List Addr} {n : Nat} {d' : D} {μ2 : Store} (f : Fut A H A' H') (ok0 : A.length = n) (ok : Ok K A' M μ' H') (r : RepD K A' M H' v d) (e : finD n d μ' = .ok d' μ2) : Fut A H A H' ∧ Ok K A M μ2 H' ∧ RepD K A M H' v d' := by
  subst ok0
  obtain ⟨B, rfl⟩ := f.pre
  refine ⟨⟨⟨[], by simp⟩, fun a h => .inl h, f.pr⟩, ?_⟩
  unfold finD at e
  split at e
  · rename_i k
    split at e
    · rename_i hk
      cases e
      exact ⟨ok.cellDrop, RepD.low (decide_eq_true hk) r⟩
    · rename_i hk
      split at e
      · rename_i c hc
        cases e
        refine ⟨ok.cellDrop, ?_⟩
        obtain ⟨a, rfl, ha⟩ := r
        refine frz_rep (ok.rep k a c ha hc) (fun z => ?_) (fun h3 h2 => RepL.low (undL_of_pure _ h3) h2)
        rcases z with z | z
        · rw [List.getElem?_append_right (by omega)] at ha
          exact (List.nodup_append.mp ok.nd).2.2 a z a (List.mem_of_getElem? ha) rfl
        · exact ok.dis a (List.mem_of_getElem? ha) z
      · cases e
  · split at e
    · rename_i hl
      cases e
      exact ⟨ok.cellDrop, RepD.low hl r⟩
    · cases e
end
section
variable {P : Program} {w : World} {K : PySem.W.Frag} {mg : Str → Option Value} {base : Heap}
theorem cal_D {x : Str} {st : Stmt} {N ps : List Str} {k nl : Nat} {body : MS} (F : Df K mg x st) (S : FnScope N ps (defScope st)) (hN : N.length = ps.length + nl)
    (hbd : ∀ (kV doc pm : Value) (an : Option Addr) (cdv ct : Value) (us : List Value), us.length = ps.length → bindArgs (PySem.W.fnOf x x (defArgs st) (defBody st) (defScope st) .none kV doc pm an cdv ct) ⟨us, []⟩ = pure (ps.zip us))
    (hb : ∀ (f : Addr) (cdv : Value) (A : Around) (outer : List Env) (s : Shared) (H : Hp) (E : XK), Room k (A.deeper (envOfC x (defScope st) s.heap.objs.size f cdv)) →
      ∃ t, PSs (cxOf CX0 P w K mg base N x (defScope st) f cdv A outer s H E).nox (defBody st) t ∧ StD K none t body) : Cal P w K mg base (k + 1) x ps (modSp K (fnD ps.length nl body)) := by
  refine F.cal S (fun vs H Q E h => ?_) hbd (fun f cdv A outer s H vs Q E hr h => ?_)
  · obtain ⟨A, M, μ, ds, d, μ', ok, r, e, q⟩ := h
    unfold fnD at e
    split at e
    · rename_i hl
      rw [r.len, hl]
    · cases e
  · obtain ⟨A0, M, μ, ds, d, μ', ok, r, e, q⟩ := h
    obtain ⟨t, h1, h2⟩ := hb f cdv A outer s H E hr
    refine ⟨t, h1, ?_⟩
    unfold fnD at e
    split at e
    · rename_i hl
      refine h2 A0 M μ H _ _ _ ok (env_start r (by rw [hl]; exact hN)) ?_
      split at e
      · rename_i en2 μ2 eb
        cases e
        rw [eb]
        intro σ' H' A' f' ok' _
        obtain ⟨B, rfl⟩ := f'.pre
        exact q .non H' A0 ⟨⟨[], by simp⟩, fun a h => .inl h, f'.pr⟩ (by rw [← ok.len]; exact ok'.cellDrop) rfl
      · rename_i d2 μ2 eb
        rw [eb]
        intro v H' A' f' ok' r'
        obtain ⟨g1, g2, g3⟩ := fin_rep f' ok.len ok' r' e
        exact q v H' A0 g1 g2 g3
      · cases e
    · cases e
theorem cal_K {x : Str} {st : Stmt} {N ps : List Str} {k nl : Nat} {body : MS} (F : Df K mg x st) (S : FnScope N ps (defScope st)) (hN : N.length = ps.length + nl)
    (hbd : ∀ (kV doc pm : Value) (an : Option Addr) (cdv ct : Value) (us : List Value), us.length = ps.length → bindArgs (PySem.W.fnOf x x (defArgs st) (defBody st) (defScope st) .none kV doc pm an cdv ct) ⟨us, []⟩ = pure (ps.zip us))
    (hb : ∀ (f : Addr) (cdv : Value) (A : Around) (outer : List Env) (s : Shared) (H : Hp) (E : XK), Room k (A.deeper (envOfC x (defScope st) s.heap.objs.size f cdv)) →
      ∃ t, PSs (cxOf CX0 P w K mg base N x (defScope st) f cdv A outer s H E).nox (defBody st) t ∧ StD K none t body) : Cal P w K mg base (k + 1) x ps (modSp K (fnK ps.length nl body)) := by
  refine F.cal S (fun vs H Q E h => ?_) hbd (fun f cdv A outer s H vs Q E hr h => ?_)
  · obtain ⟨A, M, μ, ds, d, μ', ok, r, e, q⟩ := h
    unfold fnK at e
    split at e
    · rename_i hl
      rw [r.len, hl]
    · cases e
  · obtain ⟨A0, M, μ, ds, d, μ', ok, r, e, q⟩ := h
    obtain ⟨t, h1, h2⟩ := hb f cdv A outer s H E hr
    refine ⟨t, h1, ?_⟩
    unfold fnK at e
    split at e
    · rename_i hl
      refine h2 A0 M μ H _ _ _ ok (env_start r (by rw [hl]; exact hN)) ?_
      split at e
      · rename_i en2 μ2 eb
        cases e
        rw [eb]
        exact fun σ' H' A' f' ok' _ => q .non H' A' f' ok' rfl
      · rename_i d2 μ2 eb
        cases e
        rw [eb]
        exact fun v H' A' f' ok' r' => q v H' A' f' ok' r'
      · cases e
    · cases e
/-- the law's promise, kept by its model -/
def sp_lawM (K : PySem.W.Frag) : Sp := fun vs H Q _ => ∃ (a : Addr) (ns : List Int), vs = [.ref a] ∧ SqL K H a (ns.map V.int) ∧ ns.length ≤ 63 ∧ ∀ H', Q (.bl true) H'
theorem repL_ints {A : List Addr} {M : Addr → Prop} {H : Hp} : ∀ (xs : List Int), RepL K A M H (xs.map V.int) (xs.map D.int)
  | [] => rfl
  | x :: xs => ⟨.int x, _, rfl, rfl, repL_ints xs⟩
theorem law_M {x : Str} {st : Stmt} {N : List Str} {p : Str} {k nl : Nat} {body : MS} {f : Addr} {fd : FuncData} (F : FunD K x x (defArgs st) (defBody st) (defScope st) [] [] f fd) (S : FnScope N [p] (defScope st)) (hN : N.length = 1 + nl)
    (hb : ∀ (cdv : Value) (A : Around) (outer : List Env) (s : Shared) (H : Hp) (E : XK), Room k (A.deeper (envOfC x (defScope st) s.heap.objs.size f cdv)) →
      ∃ t, PSs (cxOf CX0 P w K mg base N x (defScope st) f cdv A outer s H E).nox (defBody st) t ∧ StD K none t body)
    (hm : ∀ ns : List Int, ns.length ≤ 63 → ∃ μ', body (some (.wl (ns.map D.int)) :: List.replicate nl none) [] = .rt (.bl true) μ') : FnOk P w K mg base CX0 (k + 1) f fd [p] (sp_lawM K) := by
  refine FunD_fn F S (fun vs H Q E h => ?_) (fun cdv A outer s H vs Q E hr h => ?_)
  · obtain ⟨a, ns, rfl, _⟩ := h
    rfl
  · obtain ⟨a, ns, rfl, hS, hl, q⟩ := h
    obtain ⟨t, h1, h2⟩ := hb cdv A outer s H E hr
    refine ⟨t, h1, ?_⟩
    obtain ⟨μ', e⟩ := hm ns hl
    have ok : Ok K [] (fun _ => False) [] H := ⟨List.nodup_nil, rfl, fun k a c h => (nomatch h), fun a h => h.elim, fun a h => nomatch h⟩
    have r : RepL K [] (fun _ => False) H [.ref a] [.wl (ns.map D.int)] := .one ⟨a, ns.map V.int, rfl, .ofL hS (fun z => z.elim (fun z => nomatch z) id), repL_ints ns⟩
    refine h2 [] _ [] H _ _ _ ok (env_start r hN) ?_
    show Post K none [] _ H _ (body (some (.wl (ns.map D.int)) :: List.replicate nl none) [])
    rw [e]
    intro v H' A' _ _ r'
    rw [show v = _ from r']
    exact q H'
end
end My
namespace My
open PySem PySem.Spec PyProof.Rows L2
section
variable {K : PySem.W.Frag} {te ta tb tc : TE} {m ma mb mc : Mo D} {tt tu : TT} {mt mu : Mo Bool} {tas : TA} {mas : Mo (List D)}
def sBreak : MS := fun env μ => .bk env μ
def sCont : MS := fun env μ => .ct env μ
def sNever : MS := fun _ _ => .no
def sRetN : MS := fun _ μ => .rt .non μ
theorem t_break : StD K W tBreak sBreak := fun A M μ H σ env E ok en p => p σ H A .refl ok en
theorem t_cont : StD K W tCont sCont := fun A M μ H σ env E ok en p => p σ H A .refl ok en
theorem t_never : StD K W tNever sNever := fun A M μ H σ env E ok en p => p.elim
theorem t_retN' : StD K W tRetN sRetN := t_retN
def sPar3 (i j l : Nat) (m : Mo (List D)) : MS := fun env μ => match m env μ with
  | .ok [x, y, z] μ' => .nx (((env.set i (some x)).set j (some y)).set l (some z)) μ'
  | _ => .no
theorem t_par3 {i j l : Nat} (h : EvS K tas mas) : StD K W (tPar3 i j l tas) (sPar3 i j l mas) := fun A M μ H σ env E ok en p => by
  unfold sPar3 at p
  cases e : mas env μ with
  | ok ds μ' =>
    rw [e] at p
    refine h A M μ H σ env ds μ' ok en e _ fun vs H1 A1 f1 ok1 r1 => ?_
    match ds, r1, p with
    | [x, y, z], r1, p =>
      obtain ⟨v, r', rfl, h1, w, r2, rfl, h2, u, r3, rfl, h3, rfl⟩ := r1
      exact ⟨v, w, u, rfl, p _ H1 A1 f1 ok1 ((((en.go f1.go).set i h1).set j h2).set l h3)⟩
    | [], _, p => exact p.elim
    | [_], _, p => exact p.elim
    | [_, _], _, p => exact p.elim
    | _ :: _ :: _ :: _ :: _, _, p => exact p.elim
  | no => rw [e] at p; exact p.elim
  | rz => rw [e] at p; exact p.elim
/-! ### how a loop goes -/
@[simp] theorem gdOk_none {μ : Store} : gdOk none μ = true := rfl
theorem forGo_nil {tg : Tg} {body : MS} {env : En} {μ : Store} : forGo none tg body [] env μ = .nx env μ := rfl
theorem forGo_nx {tg : Tg} {body : MS} {d : D} {ds : List D} {env env1 env2 : En} {μ μ2 : Store} (h1 : tg d env = some env1) (h2 : body env1 μ = .nx env2 μ2) : forGo none tg body (d :: ds) env μ = forGo none tg body ds env2 μ2 := by
  rw [forGo, if_pos gdOk_none, h1]
  dsimp only
  rw [h2]
theorem forGo_ct {tg : Tg} {body : MS} {d : D} {ds : List D} {env env1 env2 : En} {μ μ2 : Store} (h1 : tg d env = some env1) (h2 : body env1 μ = .ct env2 μ2) : forGo none tg body (d :: ds) env μ = forGo none tg body ds env2 μ2 := by
  rw [forGo, if_pos gdOk_none, h1]
  dsimp only
  rw [h2]
theorem forGo_rt {tg : Tg} {body : MS} {d x : D} {ds : List D} {env env1 : En} {μ μ2 : Store} (h1 : tg d env = some env1) (h2 : body env1 μ = .rt x μ2) : forGo none tg body (d :: ds) env μ = .rt x μ2 := by
  rw [forGo, if_pos gdOk_none, h1]
  dsimp only
  rw [h2]
/-- an invariant over the items that are left -/
theorem forGo_inv {tg : Tg} {body : MS} (I : List D → En → Store → Prop) (hs : ∀ d ds env μ, I (d :: ds) env μ → ∃ env1, tg d env = some env1 ∧ ∃ env2 μ2, body env1 μ = .nx env2 μ2 ∧ I ds env2 μ2) : ∀ (ds : List D) (env : En) (μ : Store), I ds env μ → ∃ env2 μ2, forGo none tg body ds env μ = .nx env2 μ2 ∧ I [] env2 μ2
  | [], env, μ, h => ⟨env, μ, rfl, h⟩
  | d :: ds, env, μ, h => by
    obtain ⟨env1, h1, env2, μ2, h2, h3⟩ := hs d ds env μ h
    obtain ⟨env3, μ3, h4, h5⟩ := forGo_inv I hs ds env2 μ2 h3
    exact ⟨env3, μ3, (forGo_nx h1 h2).trans h4, h5⟩
theorem lcGo_nil {tg : Tg} {t : Mo Bool} {e : Mo D} {env : En} {μ : Store} : lcGo none tg t e env [] μ = .ok [] μ := rfl
theorem lcGo_yes {tg : Tg} {t : Mo Bool} {e : Mo D} {env env1 : En} {μ μ1 μ2 : Store} {d x : D} {ds : List D} (h1 : tg d env = some env1) (h2 : t env1 μ = .ok true μ1) (h3 : e env1 μ1 = .ok x μ2) : lcGo none tg t e env (d :: ds) μ = (lcGo none tg t e env ds μ2).bind fun xs μ3 => .ok (x :: xs) μ3 := by
  rw [lcGo, if_pos gdOk_none, h1]
  dsimp only
  rw [h2, Rs.bind_k, if_pos rfl, h3, Rs.bind_k]
theorem lcGo_skip {tg : Tg} {t : Mo Bool} {e : Mo D} {env env1 : En} {μ μ1 : Store} {d : D} {ds : List D} (h1 : tg d env = some env1) (h2 : t env1 μ = .ok false μ1) : lcGo none tg t e env (d :: ds) μ = lcGo none tg t e env ds μ1 := by
  rw [lcGo, if_pos gdOk_none, h1]
  dsimp only
  rw [h2, Rs.bind_k, if_neg (by decide)]
/-- each item gives one, the store stays -/
theorem lcGo_map {tg : Tg} {t : Mo Bool} {e : Mo D} {env : En} {μ : Store} {α : Type} (f : α → D) (g : α → D) (hs : ∀ a, ∃ env1, tg (f a) env = some env1 ∧ t env1 μ = .ok true μ ∧ e env1 μ = .ok (g a) μ) : ∀ as : List α, lcGo none tg t e env (as.map f) μ = .ok (as.map g) μ
  | [] => rfl
  | a :: as => by
    obtain ⟨env1, h1, h2, h3⟩ := hs a
    rw [List.map_cons, lcGo_yes h1 h2 h3, lcGo_map f g hs as]
    rfl
theorem lcGo_mapM {tg : Tg} {t : Mo Bool} {e : Mo D} {env : En} {μ : Store} {α : Type} (f : α → D) (g : α → D) : ∀ as : List α, (∀ a ∈ as, ∃ env1, tg (f a) env = some env1 ∧ t env1 μ = .ok true μ ∧ e env1 μ = .ok (g a) μ) → lcGo none tg t e env (as.map f) μ = .ok (as.map g) μ
  | [], _ => rfl
  | a :: as, hs => by
    obtain ⟨env1, h1, h2, h3⟩ := hs a (List.mem_cons_self ..)
    rw [List.map_cons, lcGo_yes h1 h2 h3, lcGo_mapM f g as fun b hb => hs b (List.mem_cons_of_mem _ hb)]
    rfl
theorem lcGo_filter {tg : Tg} {t : Mo Bool} {e : Mo D} {env : En} {μ : Store} {α : Type} (f : α → D) (p : α → Bool) (g : α → D) : ∀ as : List α, (∀ a ∈ as, ∃ env1, tg (f a) env = some env1 ∧ t env1 μ = .ok (p a) μ ∧ (p a = true → e env1 μ = .ok (g a) μ)) → lcGo none tg t e env (as.map f) μ = .ok ((as.filter p).map g) μ
  | [], _ => rfl
  | a :: as, hs => by
    obtain ⟨env1, h1, h2, h3⟩ := hs a (List.mem_cons_self ..)
    have ih := lcGo_filter f p g as fun b hb => hs b (List.mem_cons_of_mem _ hb)
    cases hp : p a with
    | true =>
      rw [hp] at h2
      rw [List.map_cons, lcGo_yes h1 h2 (h3 hp), ih, List.filter_cons_of_pos hp]
      rfl
    | false =>
      rw [hp] at h2
      rw [List.map_cons, lcGo_skip h1 h2, ih, List.filter_cons_of_neg (by rw [hp]; decide)]
theorem whileGo_stop {t : Mo Bool} {body : MS} {f : Nat} {env : En} {μ μ1 : Store} (h : t env μ = .ok false μ1) : whileGo t body (f + 1) env μ = .nx env μ1 := by
  rw [whileGo, h]
  rfl
theorem whileGo_nx {t : Mo Bool} {body : MS} {f : Nat} {env env2 : En} {μ μ1 μ2 : Store} (h : t env μ = .ok true μ1) (h2 : body env μ1 = .nx env2 μ2) : whileGo t body (f + 1) env μ = whileGo t body f env2 μ2 := by
  rw [whileGo, h]
  dsimp only
  rw [if_pos rfl, h2]
theorem whileGo_rt {t : Mo Bool} {body : MS} {f : Nat} {env : En} {μ μ1 μ2 : Store} {x : D} (h : t env μ = .ok true μ1) (h2 : body env μ1 = .rt x μ2) : whileGo t body (f + 1) env μ = .rt x μ2 := by
  rw [whileGo, h]
  dsimp only
  rw [if_pos rfl, h2]
end
end My
namespace My
open PySem PySem.Spec PyProof.Rows L2
/-! ### sorted, of tuples of texts -/
abbrev Ky := List Codes
def kyLt (a b : Ky) : Bool := PyProof.Rows.lexLt itemOrd (a.map Sum.inr) (b.map Sum.inr)
theorem kyLt_swo {α : Type} (f : α → Ky) : SrtO.Swo (fun x y => kyLt (f x) (f y)) := by
  refine ⟨fun x y h => ?_, fun x y z h1 h2 => ?_⟩
  · cases h2 : kyLt (f y) (f x) with
    | false => rfl
    | true =>
      have h3 := lex_trans (O := itemOrd) _ _ _ h h2
      rw [lex_irrefl] at h3
      cases h3
  · cases h3 : kyLt (f z) (f x) with
    | false => rfl
    | true =>
      rcases lex_negTrans (O := itemOrd) _ ((f y).map Sum.inr) _ h3 with h | h
      · rw [show PyProof.Rows.lexLt itemOrd _ _ = kyLt (f z) (f y) from rfl, h2] at h; cases h
      · rw [show PyProof.Rows.lexLt itemOrd _ _ = kyLt (f y) (f x) from rfl, h1] at h; cases h
/-- what a value's tuple holds, by the heap -/
def kyV (h : Heap) (v : Value) : Ky := ((tupKey h (fun _ => true) v).getD []).map fun x => match x with
  | .inr c => c
  | .inl _ => []
structure IsKy (h : Heap) (v : Value) (k : Ky) : Prop where
  ex : ∃ a o us n, v = .ref a ∧ h.get? a = some o ∧ o.cls = .type "tuple" ∧ o.data = .seq us n ∧ Vals (k.map sv) us.toList
  ne : k ≠ []
theorem tupItems_ky : ∀ {k : Ky} {us : List Value} (i : Nat), Vals (k.map sv) us → tupItems (fun _ => true) i us = some (k.map Sum.inr)
  | [], _, i, .nil => rfl
  | c :: k, _, i, .cons r t => by
    obtain ⟨tk, rfl⟩ := r
    rw [tupItems, if_pos rfl, tupItems_ky (i + 1) t]
    rfl
theorem IsKy.key {h : Heap} {v : Value} {k : Ky} (x : IsKy h v k) : tupKey h (fun _ => true) v = some (k.map Sum.inr) := by
  obtain ⟨a, o, us, n, rfl, ho, _, hd, r⟩ := x.ex
  unfold tupKey
  dsimp only
  rw [ho]
  dsimp only
  rw [hd]
  exact tupItems_ky 0 r
theorem IsKy.eq {h : Heap} {v : Value} {k : Ky} (x : IsKy h v k) : kyV h v = k := by
  unfold kyV
  rw [x.key]
  simp [List.map_map, Function.comp_def]
theorem IsKy.keeps {h h' : Heap} {v : Value} {k : Ky} (x : IsKy h v k) (kp : ∀ b o, h.get? b = some o → o.cls = .type "tuple" → h'.get? b = some o) : IsKy h' v k := by
  obtain ⟨a, o, us, n, e, ho, hc, hd, r⟩ := x.ex
  exact ⟨⟨a, o, us, n, e, kp _ _ ho hc, hc, hd, r⟩, x.ne⟩
theorem ky_firsts {h : Heap} : ∀ {vs : List Value}, (∀ v ∈ vs, ∃ k, IsKy h v k) → ∃ fs, TupsOf h (fun _ => true) vs fs ∧ fs.length = vs.length
  | [], _ => ⟨[], .nil, rfl⟩
  | v :: vs, hv => by
    obtain ⟨fs, h1, h2⟩ := ky_firsts (vs := vs) fun u hu => hv u (List.mem_cons_of_mem _ hu)
    obtain ⟨k, x⟩ := hv v (List.mem_cons_self ..)
    obtain ⟨a, o, us, n, e, ho, hc, hd, r⟩ := x.ex
    cases k with
    | nil => exact absurd rfl x.ne
    | cons c k =>
      obtain ⟨ul⟩ := us
      cases r with
      | cons r1 r2 =>
        obtain ⟨tk, rfl⟩ := r1
        exact ⟨_ :: fs, .cons ⟨a, o, _, n, e, ho, hc, hd, rfl, fun z => (nomatch z), fun _ => ⟨_, tk, rfl⟩⟩ h1, by rw [List.length_cons, List.length_cons, h2]⟩
theorem ky_sortable {prog : Program} {w : World} {A : Around} {s : Shared} {a : Addr} {vs : List Value} {g : Value → Ky} (h0 : 0 < vs.length) (hp : ∀ v ∈ vs, IsKy s.heap v (g v)) (ha : ∀ o, s.heap.get? a = some o → o.cls ≠ .type "tuple") : SrtO.SortableO prog w A s a vs fun v u => kyLt (g v) (g u) := by
  intro h' keep
  have hp' : ∀ v ∈ vs, IsKy h' v (g v) := fun v hm => (hp v hm).keeps fun b o e c => keep b o (fun z => by subst z; exact ha o e c) e
  obtain ⟨fs, h1, h2⟩ := ky_firsts fun v hm => ⟨_, hp' v hm⟩
  refine ⟨tuples' true, fun Q E hq => tup_kind (s := { s with heap := h' }) (shape := fun _ => true) (by omega) h1 hq, ?_⟩
  intro p q hm hm'
  exact tup_ltAt (s := { s with heap := h' }) (shape := fun _ => true) true _ _ p.1 q.1 _ _ (hp' _ hm).key (hp' _ hm').key ⟨rfl, rfl⟩
abbrev ltZ (x y : V × Ky) : Bool := kyLt x.2 y.2
def rSortedK (K : PySem.W.Frag) : List V → Hp → VK → Prop := fun vs H Q => ∃ (a : Addr) (xs : List V) (ks : List Ky), vs = [V.ref a] ∧ SqL K H a xs ∧ Paired (fun x k => ∃ t, x = V.ref t ∧ k ≠ [] ∧ SqT K H t (k.map sv)) xs ks ∧
  ∀ (zs : List (V × Ky)) p, SrtO.Srtd ltZ zs → SrtO.Stb ltZ zs (xs.zip ks) → H p = none → Q (.ref p) (upd H p (.lst (zs.map Prod.fst)))
theorem ky_vals {X : Cx} {pins : List (Addr × Obj)} {σ : L2.St} {H : Hp} {s : Shared} (I : Inv X pins σ H s) : ∀ {xs : List V} {ks : List Ky} {us : List Value}, Paired (fun x k => ∃ t, x = V.ref t ∧ k ≠ [] ∧ SqT X.K H t (k.map sv)) xs ks → Vals xs us →
    (∀ u ∈ us, IsKy s.heap u (kyV s.heap u)) ∧ us.map (fun u => (backV u, kyV s.heap u)) = xs.zip ks ∧ ∀ u ∈ us, ∃ a, u = Value.ref a
  | _, _, _, .nil, .nil => ⟨fun u h => (nomatch h), rfl, fun u h => nomatch h⟩
  | _, _, _, .cons (a := x) (b := k) hx px, .cons r t => by
    obtain ⟨h1, h2, h3⟩ := ky_vals I px t
    obtain ⟨ad, rfl, hk, hq⟩ := hx
    obtain rfl := (show _ = Value.ref ad from r)
    obtain ⟨its, rv, ⟨o, ho, hc, n, hd⟩, _⟩ := I.tuple hq
    have isk : IsKy s.heap (.ref ad) k := ⟨⟨ad, o, its.toArray, n, rfl, ho, hc, hd, by simpa using rv⟩, hk⟩
    refine ⟨fun u hu => ?_, ?_, fun u hu => ?_⟩
    · rcases List.mem_cons.mp hu with rfl | hu
      · rw [isk.eq]; exact isk
      · exact h1 u hu
    · rw [List.map_cons, h2, isk.eq]
      rfl
    · rcases List.mem_cons.mp hu with rfl | hu
      · exact ⟨ad, rfl⟩
      · exact h3 u hu
theorem cr_sortedK {X : Cx} : CallR X (.builtin "sorted") (rSortedK X.K) := by
  intro pins s σ H vs us Q I r h
  obtain ⟨a, xs, ks, rfl, hs, hx, q⟩ := h
  obtain ⟨its, rv, hl, hz⟩ := I.list hs
  obtain ⟨u, rfl, ru⟩ := vals1 r
  obtain rfl : u = Value.ref a := ru
  obtain ⟨h1, h2, h3⟩ := ky_vals I hx rv
  have hz' : its.length ≤ sizeLine := by rw [← rv.length]; exact hz
  refine SrtO.sorted_ord (kyLt_swo (kyV s.heap)) hl.isList hz' (fun h2 h₁ ad ha kk => ?_) fun out hs hb => ?_
  · refine ky_sortable (s := { s with heap := h₁ }) (by omega) (fun v hm => (h1 v hm).keeps fun b o e _ => (kk b o e).2) fun o e => ?_
    have e' : some o = some (seqObj "list" its.toArray 0) := e.symm.trans ha
    cases e'
    exact fun c => absurd (Value.type.inj c) (by decide)
  · have hout : ∀ u ∈ out, ∃ a, u = Value.ref a := fun u hu => h3 u (hb.perm.mem_iff.mp hu)
    obtain ⟨n, hn⟩ := sortedAll_at s.heap its out.toArray
    have hd : s.heap.objs.size ≤ s.heap.objs.size + 1 := Nat.le_succ _
    have e1 : (out.map fun u => (backV u, kyV s.heap u)).map Prod.fst = out.map backV := by rw [List.map_map]; rfl
    have hb2 := SrtO.Stb.map (lt := ltZ) (kyLt_swo Prod.snd) (fun u => (backV u, kyV s.heap u)) hb
    rw [h2] at hb2
    refine ⟨.ref (s.heap.objs.size + 1), upd H (s.heap.objs.size + 1) (.lst (out.map backV)), I.laid (t' := s.toks) (fun b o e => sortedAll_old e) hd ⟨?_, out, n, vals_back hout, hn⟩, rfl, ?_⟩
    · rw [List.length_map, hb.perm.length_eq]
      exact hz'
    · rw [← e1]
      exact q _ _ (SrtO.srtd_map (lt := ltZ) hs) hb2 (I.hok.fresh hd)
theorem cr_sortedA {X : Cx} {K : PySem.W.Frag} (hK : X.K = K := by rfl) : CallR X (.builtin "sorted") (rSortedK K) := hK ▸ cr_sortedK
/-! the model's own sorting -/
section
variable {α : Type} {lt : α → α → Bool}
def insO (lt : α → α → Bool) (x : α) : List α → List α
  | [] => [x]
  | y :: ys => if lt y x = true then y :: insO lt x ys else x :: y :: ys
def sortO (lt : α → α → Bool) (xs : List α) : List α := xs.foldr (insO lt) []
theorem insO_perm (x : α) : ∀ ys, (insO lt x ys).Perm (x :: ys)
  | [] => .refl _
  | y :: ys => by
    unfold insO
    split
    · exact (List.Perm.cons y (insO_perm x ys)).trans (List.Perm.swap x y ys)
    · exact .refl _
theorem insO_srtd (O : SrtO.Swo lt) (x : α) : ∀ {ys}, SrtO.Srtd lt ys → SrtO.Srtd lt (insO lt x ys)
  | [], _ => List.pairwise_singleton _ _
  | y :: ys, h => by
    have h := List.pairwise_cons.mp h
    unfold insO
    split
    · rename_i hl
      refine List.pairwise_cons.mpr ⟨fun z hz => ?_, insO_srtd O x h.2⟩
      rcases List.mem_cons.mp ((insO_perm x ys).mem_iff.mp hz) with rfl | hz
      · exact O.asym _ _ hl
      · exact h.1 z hz
    · rename_i hl
      have hl : lt y x = false := by cases e : lt y x with | true => exact absurd e hl | false => rfl
      refine List.pairwise_cons.mpr ⟨fun z hz => ?_, List.pairwise_cons.mpr h⟩
      rcases List.mem_cons.mp hz with rfl | hz
      · exact hl
      · exact O.tr x y z hl (h.1 z hz)
theorem insO_cls (O : SrtO.Swo lt) (x a : α) : ∀ ys : List α, (insO lt x ys).filter (SrtO.eqv lt a) = (x :: ys).filter (SrtO.eqv lt a)
  | [] => rfl
  | y :: ys => by
    unfold insO
    split
    · rename_i hl
      rw [List.filter_cons, insO_cls O x a ys]
      cases hx : SrtO.eqv lt a x with
      | false => simp [List.filter_cons, hx]
      | true =>
        have hy : SrtO.eqv lt a y = false := by
          cases hy : SrtO.eqv lt a y with
          | false => rfl
          | true =>
            have h1 := SrtO.eqv_iff.mp hx
            have h2 := SrtO.eqv_iff.mp hy
            have h3 := O.tr x a y h1.1 h2.2
            rw [hl] at h3
            cases h3
        simp [List.filter_cons, hx, hy]
    · rfl
theorem sortO_ok (O : SrtO.Swo lt) : ∀ xs : List α, SrtO.Srtd lt (sortO lt xs) ∧ SrtO.Stb lt (sortO lt xs) xs
  | [] => ⟨.nil, .refl _⟩
  | x :: xs => by
    obtain ⟨h1, h2⟩ := sortO_ok O xs
    show SrtO.Srtd lt (insO lt x (sortO lt xs)) ∧ SrtO.Stb lt (insO lt x (sortO lt xs)) (x :: xs)
    refine ⟨insO_srtd O x h1, (insO_perm x _).trans (h2.perm.cons x), fun a => ?_⟩
    rw [insO_cls O, List.filter_cons, List.filter_cons, h2.cls a]
theorem Stb.symm' {l m : List α} (h : SrtO.Stb lt l m) : SrtO.Stb lt m l := ⟨h.perm.symm, fun x => (h.cls x).symm⟩
theorem Stb.trans' {l m n : List α} (h : SrtO.Stb lt l m) (h2 : SrtO.Stb lt m n) : SrtO.Stb lt l n := ⟨h.perm.trans h2.perm, fun x => (h.cls x).trans (h2.cls x)⟩
/-- any sorted and stable arrangement is the model's -/
theorem sortO_uniq (O : SrtO.Swo lt) {zs xs : List α} (h1 : SrtO.Srtd lt zs) (h2 : SrtO.Stb lt zs xs) : zs = sortO lt xs := by
  obtain ⟨h3, h4⟩ := sortO_ok O xs
  exact SrtO.stb_uniq O h1 h3 (Stb.trans' h2 (Stb.symm' h4))
theorem insO_map {β : Type} {lt2 : β → β → Bool} (f : α → β) (hf : ∀ x y, lt x y = lt2 (f x) (f y)) (x : α) : ∀ ys : List α, (insO lt x ys).map f = insO lt2 (f x) (ys.map f)
  | [] => rfl
  | y :: ys => by
    rw [List.map_cons, insO, insO, ← hf]
    split
    · rw [List.map_cons, insO_map f hf x ys]
    · rfl
theorem sortO_map {β : Type} {lt2 : β → β → Bool} (f : α → β) (hf : ∀ x y, lt x y = lt2 (f x) (f y)) : ∀ xs : List α, (sortO lt xs).map f = sortO lt2 (xs.map f)
  | [] => rfl
  | x :: xs => by
    show (insO lt x (sortO lt xs)).map f = insO lt2 (f x) (sortO lt2 (xs.map f))
    rw [insO_map f hf, sortO_map f hf xs]
end
def tkey : D → Option Ky
  | .tup ds => match strsOf ds with
    | some (l :: ls) => some (l :: ls)
    | _ => none
  | _ => none
def kyD (d : D) : Ky := (tkey d).getD []
def lSorted (μ : Store) : List D → Option (List D)
  | [x] => match asS μ x with
    | some xs => if xs.all (fun d => (tkey d).isSome) = true then some (sortO (fun a b => kyLt (kyD a) (kyD b)) xs) else none
    | none => none
  | _ => none
section
variable {K : PySem.W.Frag} {A : List Addr} {M : Addr → Prop} {H : Hp}
theorem repL_keys : ∀ {ds : List D} {vs : List V}, RepL K A M H vs ds → ds.all (fun d => (tkey d).isSome) = true → Paired (fun x k => ∃ t, x = V.ref t ∧ k ≠ [] ∧ SqT K H t (k.map sv)) vs (ds.map kyD)
  | [], _, r, _ => by rw [show _ = [] from r]; exact .nil
  | d :: ds, _, ⟨v, rs, e, h, r⟩, q => by
    rw [List.all_cons, Bool.and_eq_true] at q
    rw [e]
    refine .cons ?_ (repL_keys r q.2)
    cases d with
    | tup es =>
      obtain ⟨p, ws, rfl, h1, h2⟩ := h
      have hq := q.1
      unfold kyD
      unfold tkey at hq ⊢
      dsimp only at hq ⊢
      split at hq
      · rename_i l ls hs
        have := strsOf_rep h2 hs
        subst this
        exact ⟨p, rfl, fun z => (nomatch z), h1.sq⟩
      · cases hq
    | _ => exact nomatch q.1
/-- a list of pairs, its first and second parts -/
theorem repL_zip : ∀ {ds : List D} {vs : List V}, RepL K A M H vs ds → ∀ zs : List (V × D), zs.Perm (vs.zip ds) → RepL K A M H (zs.map Prod.fst) (zs.map Prod.snd) := by
  intro ds vs r zs hp
  have h1 : ∀ z ∈ vs.zip ds, RepD K A M H z.1 z.2 := by
    clear hp
    induction ds generalizing vs with
    | nil => intro z hz; rw [show vs = [] from r] at hz; cases hz
    | cons d ds ih =>
      obtain ⟨v, rs, rfl, h, r⟩ := r
      intro z hz
      rcases List.mem_cons.mp hz with rfl | hz
      · exact h
      · exact ih r z hz
  have h2 : ∀ z ∈ zs, RepD K A M H z.1 z.2 := fun z hz => h1 z (hp.mem_iff.mp hz)
  clear hp h1 r
  induction zs with
  | nil => rfl
  | cons z zs ih => exact ⟨_, _, rfl, h2 z (List.mem_cons_self ..), ih fun y hy => h2 y (List.mem_cons_of_mem _ hy)⟩
theorem zip_map_r {α β γ : Type} (f : β → γ) : ∀ (xs : List α) (ys : List β), xs.zip (ys.map f) = (xs.zip ys).map fun z => (z.1, f z.2)
  | [], _ => rfl
  | _ :: _, [] => rfl
  | x :: xs, y :: ys => by rw [List.map_cons, List.zip_cons_cons, List.zip_cons_cons, List.map_cons, zip_map_r f xs ys]
theorem cc_sorted : CcD K (rSortedK K) lSorted := fun A M μ H vs ds es ok r e Q f => by
  unfold lSorted at e
  split at e
  · split at e
    · rename_i xs hx
      split at e
      · rename_i hk
        cases e
        obtain ⟨v, r', rfl, h1, rfl⟩ := r
        obtain ⟨p, ws, rfl, hs, r⟩ := asS_rep ok h1 hx
        refine ⟨p, ws, xs.map kyD, rfl, hs, repL_keys r hk, fun zs p hz1 hz2 hp => ?_⟩
        have O := kyLt_swo (fun z : V × Ky => z.2)
        have O2 := kyLt_swo (fun z : V × D => kyD z.2)
        have e1 : zs = (sortO (fun a b : V × D => kyLt (kyD a.2) (kyD b.2)) (ws.zip xs)).map fun z => (z.1, kyD z.2) := by
          rw [sortO_map (lt2 := ltZ) (fun z : V × D => (z.1, kyD z.2)) (fun x y => rfl), ← zip_map_r]
          exact sortO_uniq O hz1 hz2
        obtain ⟨h3, h4⟩ := sortO_ok O2 (ws.zip xs)
        have r2 := repL_zip r _ h4.perm
        have e2 : zs.map Prod.fst = (sortO (fun a b : V × D => kyLt (kyD a.2) (kyD b.2)) (ws.zip xs)).map Prod.fst := by
          rw [e1, List.map_map]
          rfl
        have e3 : (sortO (fun a b : V × D => kyLt (kyD a.2) (kyD b.2)) (ws.zip xs)).map Prod.snd = sortO (fun a b => kyLt (kyD a) (kyD b)) xs := by
          rw [sortO_map (lt2 := fun a b => kyLt (kyD a) (kyD b)) Prod.snd (fun x y => rfl), List.map_snd_zip (by rw [r.len]; exact Nat.le_refl _)]
        rw [e2]
        rw [e3] at r2
        exact f p _ hp r2
      · cases e
    · cases e
  · cases e
end
end My
namespace My
open PySem PySem.Spec PyProof.Rows L2
/-! ### the classes of the text, as plain data -/
structure CTab where
  names : List String
  sub : List (String × List String)
  fields : List String
def isSub (ct : CTab) (c c' : String) : Bool := match ct.sub.lookup c with
  | some l => l.contains c'
  | none => false
structure ClsOk (K : PySem.W.Frag) (ct : CTab) : Prop where
  cls : ∀ c ∈ ct.names, Cls K (He.ga K c)
  noat : ∀ c ∈ ct.names, ∀ f ∈ ct.fields, NoAttr K (He.ga K c) f
  tyo : ∀ c ∈ ct.names, PySem.W.findIn K (.ref (He.ga K c)) "__class__" = some (some (.builtin "object.__class__")) ∧ PySem.W.mroIn K (He.ga K c) (.type "object") = some true ∧
    PySem.W.findIn K (.ref (He.ga K c)) "__ne__" = some (some (.builtin "object.__ne__")) ∧ PySem.W.subIn K (.ref (He.ga K c)) (.type "object") = some true
  oc : PySem.W.specialIn K (.builtin "object.__class__") "__get__" = some (some (.builtin "getset_descriptor.__get__")) ∧ PySem.W.takesIn K (.builtin "object.__class__") = some true
  isi : ∀ c ∈ ct.names, ∀ c' ∈ ct.names, PySem.W.kitOne K (.ref (He.ga K c)) (.ref (He.ga K c')) = some (isSub ct c c')
  isiT : ∀ t ∈ knownT, ∀ c' ∈ ct.names, PySem.W.kitOne K (.type t) (.ref (He.ga K c')) = some false
  isiB : ∀ c ∈ ct.names, ∀ t ∈ knownC, PySem.W.kitOne K (.ref (He.ga K c)) (.type t) = some false
  nf : ∀ c ∈ ct.names, ∀ c' ∈ ct.names, (c == c' || !isSub ct c' c) = true → PySem.W.notFirst K (He.ga K c) (.ref (He.ga K c')) = true
def ctB (K : PySem.W.Frag) (ct : CTab) : Bool :=
  (ct.names.all fun c => (He.Fa.cls c).ok K && (ct.fields.all (fun f => (He.Fa.noat c f).ok K) &&
    (decide (PySem.W.findIn K (.ref (He.ga K c)) "__class__" = some (some (.builtin "object.__class__"))) && (decide (PySem.W.mroIn K (He.ga K c) (.type "object") = some true) &&
     (decide (PySem.W.findIn K (.ref (He.ga K c)) "__ne__" = some (some (.builtin "object.__ne__"))) && (decide (PySem.W.subIn K (.ref (He.ga K c)) (.type "object") = some true) &&
     (ct.names.all (fun c' => decide (PySem.W.kitOne K (.ref (He.ga K c)) (.ref (He.ga K c')) = some (isSub ct c c')) && (!(c == c' || !isSub ct c' c) || PySem.W.notFirst K (He.ga K c) (.ref (He.ga K c')))) &&
     (knownC.all (fun t => decide (PySem.W.kitOne K (.ref (He.ga K c)) (.type t) = some false)) && knownT.all (fun t => decide (PySem.W.kitOne K (.type t) (.ref (He.ga K c)) = some false)))))))))) &&
  (decide (PySem.W.specialIn K (.builtin "object.__class__") "__get__" = some (some (.builtin "getset_descriptor.__get__"))) && decide (PySem.W.takesIn K (.builtin "object.__class__") = some true))
theorem ctB_ok {K : PySem.W.Frag} {ct : CTab} (h : ctB K ct = true) : ClsOk K ct := by
  obtain ⟨h0, h9⟩ := He.ba h
  obtain ⟨o1, o2⟩ := He.ba h9
  have key : ∀ c ∈ ct.names, _ := fun c hc => He.ba (List.all_eq_true.mp h0 c hc)
  have k2 : ∀ c ∈ ct.names, _ := fun c hc => He.ba (key c hc).2
  have k3 : ∀ c ∈ ct.names, _ := fun c hc => He.ba (k2 c hc).2
  have k4 : ∀ c ∈ ct.names, _ := fun c hc => He.ba (k3 c hc).2
  have k5 : ∀ c ∈ ct.names, _ := fun c hc => He.ba (k4 c hc).2
  have k6 : ∀ c ∈ ct.names, _ := fun c hc => He.ba (k5 c hc).2
  have k7 : ∀ c ∈ ct.names, _ := fun c hc => He.ba (k6 c hc).2
  have k8 : ∀ c ∈ ct.names, _ := fun c hc => He.ba (k7 c hc).2
  exact ⟨fun c hc => He.cls_ok (key c hc).1, fun c hc f hf => He.noat_ok (List.all_eq_true.mp (k2 c hc).1 f hf),
    fun c hc => ⟨of_decide_eq_true (k3 c hc).1, of_decide_eq_true (k4 c hc).1, of_decide_eq_true (k5 c hc).1, of_decide_eq_true (k6 c hc).1⟩, ⟨of_decide_eq_true o1, of_decide_eq_true o2⟩,
    fun c hc c' hc' => of_decide_eq_true (He.ba (List.all_eq_true.mp (k7 c hc).1 c' hc')).1, fun t ht c hc => of_decide_eq_true (List.all_eq_true.mp (k8 c hc).2 t ht),
    fun c hc t ht => of_decide_eq_true (List.all_eq_true.mp (k8 c hc).1 t ht), fun c hc c' hc' z => by
      have := (He.ba (List.all_eq_true.mp (k7 c hc).1 c' hc')).2
      rw [z] at this
      exact this⟩
/-! ### an instance -/
def clsOf (μ : Store) : D → Option (String × List String × List D)
  | .obj c ns ds => some (c, ns, ds)
  | .ref k => match μ[k]? with
    | some (.obj c ns ds) => some (c, ns, ds)
    | _ => none
  | _ => none
section
variable {K : PySem.W.Frag} {A : List Addr} {M : Addr → Prop} {μ μ' : Store} {H H' : Hp} {v w : V} {d : D} {xs ds : List D} {k : Nat} {te ta tb : TE} {m ma mb : Mo D} {tas tks : TA} {mas mks : Mo (List D)} {c : String} {ns : List String} {ct : CTab}
theorem clsOf_rep (ok : Ok K A M μ H) (r : RepD K A M H v d) (e : clsOf μ d = some (c, ns, ds)) : ∃ a x vs, v = .ref a ∧ H a = some (.ins (He.ga K c) x ((nmS ns).zip vs)) ∧ ns.length = vs.length ∧ RepL K A M H vs ds := by
  cases d <;> try (cases e; done)
  · rename_i j
    obtain ⟨a, rfl, ha⟩ := r
    unfold clsOf at e
    dsimp only at e
    split at e
    · rename_i c' ns' ds' hk
      cases e
      obtain ⟨x, vs, h1, h2, _, h4⟩ := ok.rep j a _ ha hk
      exact ⟨a, x, vs, rfl, h1, (beq_iff_eq.mp (show (ns.length == ds.length) = true from h4)).trans h2.len.symm, h2⟩
    · cases e
  · cases e
    obtain ⟨a, x, vs, rfl, h, l, r⟩ := r
    exact ⟨a, x, vs, rfl, h.1, l, r⟩
def getF (f : String) : List String → List D → Option D
  | n :: ns, d :: ds => if n = f then some d else getF f ns ds
  | _, _ => none
theorem getF_rep {f : String} {e : D} : ∀ {ns : List String} {ds : List D} {vs : List V}, RepL K A M H vs ds → getF f ns ds = some e → ∃ u, ((nmS ns).zip vs).lookup (f : Str) = some u ∧ RepD K A M H u e
  | [], _, _, _, h => nomatch h
  | _ :: _, [], _, _, h => nomatch h
  | n :: ns, d :: ds, _, ⟨u, us, eu, h1, h2⟩, h => by
    subst eu
    unfold getF at h
    show ∃ u', List.lookup (f : Str) ((Str.ofString n, u) :: (nmS ns).zip us) = some u' ∧ _
    split at h
    · rename_i e
      cases h
      subst e
      exact ⟨u, by rw [List.lookup_cons, beq_self_eq_true], h1⟩
    · rename_i e
      obtain ⟨u', h3, h4⟩ := getF_rep h2 h
      refine ⟨u', ?_, h4⟩
      rw [List.lookup_cons, show ((f : Str) == Str.ofString n) = false from beq_eq_false_iff_ne.mpr fun z => e (ofString_inj z).symm]
      exact h3
theorem noF_rep {f : String} : ∀ {ns : List String} {vs : List V}, ns.contains f = false → ((nmS ns).zip vs).lookup (f : Str) = none
  | [], _, _ => rfl
  | _ :: _, [], _ => rfl
  | n :: ns, v :: vs, h => by
    rw [List.contains_cons, Bool.or_eq_false_iff] at h
    show List.lookup (f : Str) ((Str.ofString n, v) :: (nmS ns).zip vs) = none
    rw [List.lookup_cons, show ((f : Str) == Str.ofString n) = false from beq_eq_false_iff_ne.mpr fun z => by
      have := ofString_inj z
      rw [this, beq_self_eq_true] at h
      cases h.1]
    exact noF_rep h.2
/-! o.f -/
def mFld (ct : CTab) (f : String) (o : Mo D) : Mo D := fun env μ => (o env μ).bind fun x μ1 => match clsOf μ1 x with
  | some (c, ns, ds) => if ct.names.contains c = true ∧ ct.fields.contains f = true then Rs.of (getF f ns ds) μ1 else .no
  | none => .no
theorem d_fld {f : String} (G : ClsOk K ct) (h : EvD K ta ma) : EvD K (tFld K ta (f : Str)) (mFld ct f ma) := fun A M μ H σ env d μ' ok en e Q q => by
  obtain ⟨x, μ1, e1, e2⟩ := Rs.bind_ok e
  split at e2
  · rename_i c ns ds hc
    split at e2
    · rename_i hn
      obtain ⟨e3, rfl⟩ := Rs.of_ok e2
      refine h A M μ H σ env x _ ok en e1 _ fun v H1 A1 f1 ok1 r1 => ?_
      obtain ⟨a, y, vs, rfl, h1, hl, r2⟩ := clsOf_rep ok1 r1 hc
      obtain ⟨u, h3, h4⟩ := getF_rep r2 e3
      exact ⟨a, _, y, _, u, rfl, h1, G.cls c (by simpa using hn.1), G.noat c (by simpa using hn.1) f (by simpa using hn.2), h3, q u H1 A1 f1 ok1 h4⟩
    · cases e2
  · cases e2
/-! o.f = e -/
def putC {α : Type} (f : String) (d : α) : List String → List α → List String × List α
  | n :: ns, x :: xs => if n = f then (n :: ns, d :: xs) else (n :: (putC f d ns xs).1, x :: (putC f d ns xs).2)
  | _, _ => ([f], [d])
theorem putC_len {α : Type} {f : String} {d : α} : ∀ {ns : List String} {xs : List α}, ns.length = xs.length → (putC f d ns xs).1.length = (putC f d ns xs).2.length
  | [], _, _ => rfl
  | _ :: _, [], h => nomatch h
  | n :: ns, x :: xs, h => by
    unfold putC
    split
    · exact h
    · exact congrArg Nat.succ (putC_len (Nat.succ.inj h))
theorem putC_fst {α β : Type} {f : String} {d : α} {e : β} : ∀ {ns : List String} {xs : List α} {ys : List β}, xs.length = ys.length → (putC f d ns xs).1 = (putC f e ns ys).1
  | [], _, _, _ => rfl
  | _ :: _, [], [], _ => rfl
  | _ :: _, [], _ :: _, h => nomatch h
  | _ :: _, _ :: _, [], h => nomatch h
  | n :: ns, x :: xs, y :: ys, h => by
    unfold putC
    split
    · rfl
    · exact congrArg (n :: ·) (putC_fst (Nat.succ.inj h))
theorem putC_rep {f : String} {e : D} {u : V} (hu : RepD K A M H u e) : ∀ {ns : List String} {ds : List D} {vs : List V}, ns.length = vs.length → RepL K A M H vs ds → RepL K A M H (putC f u ns vs).2 (putC f e ns ds).2
  | [], _, _, _, _ => ⟨u, [], rfl, hu, rfl⟩
  | _ :: _, [], vs, l, h => by
    rw [show vs = [] from h] at l
    cases l
  | n :: ns, d :: ds, _, l, ⟨v, vs, ev, h1, h2⟩ => by
    subst ev
    unfold putC
    split
    · exact ⟨u, vs, rfl, hu, h2⟩
    · exact ⟨v, _, rfl, h1, putC_rep hu (Nat.succ.inj l) h2⟩
theorem putC_put {f : String} {u : V} : ∀ {ns : List String} {vs : List V}, ns.length = vs.length → putF (f : Str) u ((nmS ns).zip vs) = (nmS (putC f u ns vs).1).zip (putC f u ns vs).2
  | [], [], _ => rfl
  | [], _ :: _, h => nomatch h
  | _ :: _, [], h => nomatch h
  | n :: ns, v :: vs, h => by
    show (if Str.ofString n = (f : Str) then (Str.ofString n, u) :: (nmS ns).zip vs else (Str.ofString n, v) :: putF (f : Str) u ((nmS ns).zip vs)) = _
    unfold putC
    by_cases e : n = f
    · subst e
      rw [if_pos rfl, if_pos rfl]
      rfl
    · rw [if_neg (fun z => e (ofString_inj z)), if_neg e, putC_put (Nat.succ.inj h)]
      rfl
theorem putC_pure {f : String} {e : D} : ∀ {ns : List String} {ds : List D}, pureL ds = true → pureD e = true → pureL (putC f e ns ds).2 = true
  | [], _, _, he => by
    show (pureD e && true) = true
    rw [he]; rfl
  | _ :: _, [], _, he => by
    show (pureD e && true) = true
    rw [he]; rfl
  | n :: ns, d :: ds, h, he => by
    have h := (Bool.and_eq_true _ _).mp h
    unfold putC
    split
    · exact (Bool.and_eq_true _ _).mpr ⟨he, h.2⟩
    · exact (Bool.and_eq_true _ _).mpr ⟨h.1, putC_pure h.2 he⟩
def sSetF (ct : CTab) (f : String) (e o : Mo D) : MS := fun env μ => match e env μ with
  | .ok y μ0 => (match o env μ0 with
    | .ok (.ref k) μ1 => (match μ1[k]? with
      | some (.obj c ns ds) => if pureD y = true ∧ ns.length < 900 ∧ ct.names.contains c = true ∧ ct.fields.contains f = true then .nx env (μ1.set k (.obj c (putC f y ns ds).1 (putC f y ns ds).2)) else .no
      | _ => .no)
    | _ => .no)
  | _ => .no
theorem t_setF {f : String} (G : ClsOk K ct) (h : EvD K te m) (ho : EvD K ta ma) : StD K W (sFld K ta te (f : Str)) (sSetF ct f m ma) := fun A M μ H σ env E ok en p => by
  unfold sSetF at p
  cases e : m env μ with
  | no => rw [e] at p; exact p.elim
  | rz => rw [e] at p; exact p.elim
  | ok y μ0 =>
    rw [e] at p
    dsimp only at p
    refine h A M μ H σ env y μ0 ok en e _ fun v H1 A1 f1 ok1 r1 => ?_
    split at p
    · rename_i k μ1 e1
      refine ho A1 M μ0 H1 σ env _ _ ok1 (en.go f1.go) e1 _ fun w H2 A2 f2 ok2 r2 => ?_
      obtain ⟨a, rfl, ha⟩ := r2
      split at p
      · rename_i c ns ds hk
        split at p
        · rename_i hp
          obtain ⟨x, vs, h1, h2, h3, h4⟩ := ok2.rep k a _ ha hk
          have hl : ns.length = ds.length := beq_iff_eq.mp (show (ns.length == ds.length) = true from h4)
          have hlv : ns.length = vs.length := hl.trans h2.len.symm
          have r1' := RepD.go f2.go r1
          have e1 : (putC f v ns vs).1 = (putC f y ns ds).1 := putC_fst h2.len
          obtain ⟨ok3, f3⟩ := ok2.cellSet (x := x) (vs := (putC f v ns vs).2) (c := .obj c (putC f y ns ds).1 (putC f y ns ds).2) ha (putC_rep r1' hlv h2) (putC_pure h3 hp.1) (by
            show ((putC f y ns ds).1.length == (putC f y ns ds).2.length) = true
            rw [putC_len hl]
            exact beq_self_eq_true _)
          have fu := f1.trans (f2.trans f3)
          refine ⟨a, _, x, _, rfl, h1, G.cls c (by simpa using hp.2.2.1), G.noat c (by simpa using hp.2.2.1) f (by simpa using hp.2.2.2), ?_, ?_⟩
          · rw [List.length_zip]
            unfold nmS
            rw [List.length_map]
            omega
          · rw [putC_put hlv, e1]
            exact p σ _ A2 fu ok3 (en.go fu.go)
        · exact p.elim
      · exact p.elim
    · exact p.elim
/-! ### calls in any shape -/
theorem RepL.perm {vs : List V} {ds : List D} (r : RepL K A M H vs ds) (js : List Nat) : RepL K A M H (perm js vs) (perm js ds) := RepL.of_paired (perm_rel r.paired js)
def mCallP (n mm : Nat) (f : List D → Store → Rs D) (js : List Nat) (dd : List D) (a k : Mo (List D)) : Mo D := fun env μ => (a env μ).bind fun ds μ1 => (k env μ1).bind fun es μ2 => if ds.length = n ∧ es.length = mm then f (perm js (ds ++ dd ++ es)) μ2 else .no
theorem d_callPs {sp : Sp} {n mm : Nat} {f : List D → Store → Rs D} {js : List Nat} {dd : List D} {dvs : List V} {E : L2.St → XK} (hsp : ∀ vs H Q E, modSp K f vs H Q E → sp vs H Q E) (hd : ∀ A M H, RepL K A M H dvs dd) (h : EvS K tas mas) (hk : EvS K tks mks) : EvD K (tCallP n mm sp js dvs E tas tks) (mCallP n mm f js dd mas mks) := fun A M μ H σ env d μ' ok en e Q q => by
  obtain ⟨ds, μ1, e1, e2⟩ := Rs.bind_ok e
  obtain ⟨es, μ2, e3, e4⟩ := Rs.bind_ok e2
  split at e4
  · rename_i hn
    refine h A M μ H σ env ds μ1 ok en e1 _ fun vs H1 A1 f1 ok1 r1 => hk A1 M μ1 H1 σ env es μ2 ok1 (en.go f1.go) e3 _ fun zs H2 A2 f2 ok2 r2 => ⟨by rw [r1.len]; exact hn.1, by rw [r2.len]; exact hn.2, ?_⟩
    exact hsp _ _ _ _ ⟨A2, M, μ2, _, d, μ', ok2, (((RepL.go f2.go r1).app (hd _ _ _)).app r2).perm js, e4, fun v H3 A3 f3 ok3 r3 => q v H3 A3 ((f1.trans f2).trans f3) ok3 r3⟩
  · cases e4
theorem d_callP {n mm : Nat} {f : List D → Store → Rs D} {js : List Nat} {dd : List D} {dvs : List V} {E : L2.St → XK} (hd : ∀ A M H, RepL K A M H dvs dd) (h : EvS K tas mas) (hk : EvS K tks mks) : EvD K (tCallP n mm (modSp K f) js dvs E tas tks) (mCallP n mm f js dd mas mks) := d_callPs (fun _ _ _ _ h => h) hd h hk
def mMethP (ct : CTab) (cs : List String) (nm : String) (n mm : Nat) (f : List D → Store → Rs D) (js : List Nat) (dd : List D) (o : Mo D) (a k : Mo (List D)) : Mo D := fun env μ => (o env μ).bind fun x μ0 => match clsOf μ0 x with
  | some (c, ns, _) => if cs.contains c = true ∧ ct.names.contains c = true ∧ ns.contains nm = false then (a env μ0).bind fun ds μ1 => (k env μ1).bind fun es μ2 => if ds.length = n ∧ es.length = mm then f (perm js ((x :: ds) ++ dd ++ es)) μ2 else .no else .no
  | none => .no
theorem d_methPs {sp : Sp} {cs : List String} {nm : String} {a : Addr} {n mm : Nat} {f : List D → Store → Rs D} {js : List Nat} {dd : List D} {dvs : List V} {E : L2.St → XK} (hsp : ∀ vs H Q E, modSp K f vs H Q E → sp vs H Q E) (G : ClsOk K ct) (hm : ∀ c ∈ cs, Meth K (He.ga K c) (nm : Str) a) (hd : ∀ A M H, RepL K A M H dvs dd)
    (h0 : EvD K ta ma) (h : EvS K tas mas) (hk : EvS K tks mks) : EvD K (tMethP K (nm : Str) a n mm sp js dvs E ta tas tks) (mMethP ct cs nm n mm f js dd ma mas mks) := fun A M μ H σ env d μ' ok en e Q q => by
  obtain ⟨x, μ0, e0, e⟩ := Rs.bind_ok e
  split at e
  · rename_i c ns _ hc
    split at e
    · rename_i hcs
      obtain ⟨ds, μ1, e1, e2⟩ := Rs.bind_ok e
      obtain ⟨es, μ2, e3, e4⟩ := Rs.bind_ok e2
      split at e4
      · rename_i hn
        refine h0 A M μ H σ env x μ0 ok en e0 _ fun v H0 A0 f0 ok0 r0 => ?_
        obtain ⟨b, y, us, rfl, hb, hl, _⟩ := clsOf_rep ok0 r0 hc
        refine ⟨b, _, y, _, rfl, hb, G.cls c (by simpa using hcs.2.1), hm c (by simpa using hcs.1), noF_rep hcs.2.2, ?_⟩
        refine h A0 M μ0 H0 σ env ds μ1 ok0 (en.go f0.go) e1 _ fun vs H1 A1 f1 ok1 r1 => hk A1 M μ1 H1 σ env es μ2 ok1 (en.go (f0.trans f1).go) e3 _ fun zs H2 A2 f2 ok2 r2 => ⟨by rw [r1.len]; exact hn.1, by rw [r2.len]; exact hn.2, ?_⟩
        have rx : RepL K A2 M H2 (V.ref b :: vs) (x :: ds) := ⟨_, _, rfl, RepD.go (f1.trans f2).go r0, RepL.go f2.go r1⟩
        exact hsp _ _ _ _ ⟨A2, M, μ2, _, d, μ', ok2, ((rx.app (hd _ _ _)).app r2).perm js, e4, fun v H3 A3 f3 ok3 r3 => q v H3 A3 (((f0.trans f1).trans f2).trans f3) ok3 r3⟩
      · cases e4
    · cases e
  · cases e
theorem d_methP {cs : List String} {nm : String} {a : Addr} {n mm : Nat} {f : List D → Store → Rs D} {js : List Nat} {dd : List D} {dvs : List V} {E : L2.St → XK} (G : ClsOk K ct) (hm : ∀ c ∈ cs, Meth K (He.ga K c) (nm : Str) a) (hd : ∀ A M H, RepL K A M H dvs dd)
    (h0 : EvD K ta ma) (h : EvS K tas mas) (hk : EvS K tks mks) : EvD K (tMethP K (nm : Str) a n mm (modSp K f) js dvs E ta tas tks) (mMethP ct cs nm n mm f js dd ma mas mks) := d_methPs (fun _ _ _ _ h => h) G hm hd h0 h hk
def mPropP (ct : CTab) (cs : List String) (f : List D → Store → Rs D) (o : Mo D) : Mo D := fun env μ => (o env μ).bind fun x μ0 => match clsOf μ0 x with
  | some (c, _, _) => if cs.contains c = true ∧ ct.names.contains c = true then f [x] μ0 else .no
  | none => .no
theorem d_propP {cs : List String} {nm : Str} {a : Addr} {f : List D → Store → Rs D} {E : L2.St → XK} (G : ClsOk K ct) (hm : ∀ c ∈ cs, ∃ p, PropOf K (He.ga K c) nm p a) (h0 : EvD K ta ma) : EvD K (tPropP K nm a (modSp K f) E ta) (mPropP ct cs f ma) := fun A M μ H σ env d μ' ok en e Q q => by
  obtain ⟨x, μ0, e0, e⟩ := Rs.bind_ok e
  split at e
  · rename_i c ns ds hc
    split at e
    · rename_i hcs
      refine h0 A M μ H σ env x μ0 ok en e0 _ fun v H0 A0 f0 ok0 r0 => ?_
      obtain ⟨b, y, us, rfl, hb, hl, _⟩ := clsOf_rep ok0 r0 hc
      obtain ⟨p, hp⟩ := hm c (by simpa using hcs.1)
      exact ⟨b, _, y, _, p, rfl, hb, G.cls c (by simpa using hcs.2), hp, A0, M, μ0, [x], d, μ', ok0, .one r0, e, fun v H3 A3 f3 ok3 r3 => q v H3 A3 (f0.trans f3) ok3 r3⟩
    · cases e
  · cases e
/-! ### a new instance -/
def mMakeP (live : Bool) (c : String) (init : List D → Store → Rs D) (n mm : Nat) (js : List Nat) (dd : List D) (fm : Mo D) (a k : Mo (List D)) : Mo D := fun env μ => (fm env μ).bind fun x μ0 => match x with
  | .cls c' => if c' = c then (a env μ0).bind fun ds μ1 => (k env μ1).bind fun es μ2 => if ds.length = n ∧ es.length = mm then (init (perm js ((.ref μ2.length :: ds) ++ dd ++ es)) (μ2 ++ [.obj c [] []])).bind fun r μ3 => match r with
    | .non => if live = true then .ok (.ref μ2.length) μ3 else (match μ3[μ2.length]? with
      | some cell => .ok (frzC cell) (μ3.take μ2.length)
      | none => .no)
    | _ => .no else .no else .no
  | _ => .no
theorem d_makePs {sp : Sp} {live : Bool} {init : List D → Store → Rs D} {n mm : Nat} {js : List Nat} {dd : List D} {dvs : List V} {E : L2.St → XK} {tf : TE} {mf : Mo D} (hsp : ∀ vs H Q E, modSp K init vs H Q E → sp vs H Q E) (hd : ∀ A M H, RepL K A M H dvs dd) (h0 : EvD K tf mf) (h : EvS K tas mas) (hk : EvS K tks mks) :
    EvD K (tMakeP (He.ga K c) n mm sp js dvs E tf tas tks) (mMakeP live c init n mm js dd mf mas mks) := fun A M μ H σ env d μ' ok en e Q q => by
  obtain ⟨x, μ0, e0, e⟩ := Rs.bind_ok e
  split at e
  · rename_i c'
    split at e
    · rename_i hc
      subst hc
      obtain ⟨ds, μ1, e1, e2⟩ := Rs.bind_ok e
      obtain ⟨es, μ2, e3, e4⟩ := Rs.bind_ok e2
      split at e4
      · rename_i hn
        obtain ⟨r, μ3, e5, e6⟩ := Rs.bind_ok e4
        refine h0 A M μ H σ env _ μ0 ok en e0 _ fun v H0 A0 f0 ok0 r0 => ⟨r0, ?_⟩
        refine h A0 M μ0 H0 σ env ds μ1 ok0 (en.go f0.go) e1 _ fun vs H1 A1 f1 ok1 r1 => hk A1 M μ1 H1 σ env es μ2 ok1 (en.go (f0.trans f1).go) e3 _ fun zs H2 A2 f2 ok2 r2 => ⟨by rw [r1.len]; exact hn.1, by rw [r2.len]; exact hn.2, fun y dy hy hdy hne => ?_⟩
        have ok3 := ok2.new (o := .own y) hdy
        have fd : Fut A2 H2 A2 (upd H2 dy (.own y)) := .newO hdy
        have hy2 : upd H2 dy (.own y) y = none := by rw [upd_ne (fun z => hne z.symm)]; exact hy
        obtain ⟨ok4, f4⟩ := ok3.cellNew (x := dy) (vs := []) (c := .obj c' [] []) hy2 rfl rfl rfl
        have f24 := fd.trans f4
        have hlen : A2.length = μ2.length := ok2.len
        have rx : RepL K (A2 ++ [y]) M (upd (upd H2 dy (.own y)) y (.ins (He.ga K c') dy [])) (V.ref y :: vs) (.ref μ2.length :: ds) := ⟨_, _, rfl, ⟨y, rfl, by rw [← hlen]; simp⟩, RepL.go (f2.trans f24).go r1⟩
        refine hsp _ _ _ _ ⟨A2 ++ [y], M, μ2 ++ [.obj c' [] []], _, r, μ3, ok4, ((rx.app (hd _ _ _)).app (RepL.go f24.go r2)).perm js, e5, fun v5 H5 A5 f5 ok5 r5 => ?_⟩
        have hr : r = .non ∧ (if live = true then Rs.ok (D.ref μ2.length) μ3 else (match μ3[μ2.length]? with | some cell => Rs.ok (frzC cell) (μ3.take μ2.length) | none => .no)) = .ok d μ' := by
          cases r <;> first | exact ⟨rfl, e6⟩ | cases e6
        obtain ⟨rfl, e7⟩ := hr
        refine ⟨r5, ?_⟩
        have fAll : Fut A H A5 H5 := ((f0.trans f1).trans f2).trans (f24.trans f5)
        obtain ⟨B, hB⟩ := f5.pre
        split at e7
        · cases e7
          refine q _ H5 A5 fAll ok5 ⟨y, rfl, ?_⟩
          rw [hB, ← hlen]
          simp
        · split at e7
          · rename_i cell hcell
            cases e7
            have hyA : A5[μ2.length]? = some y := by
              rw [hB, ← hlen]
              simp
            subst hB
            have ok6 : Ok K (A2 ++ ([y] ++ B)) M μ3 H5 := by rw [← List.append_assoc]; exact ok5
            have f6 : Fut A H A2 H5 := by
              have f02 := (f0.trans f1).trans f2
              refine ⟨f02.pre, f02.new, fun a o ha ho => ?_⟩
              exact fAll.pr a o ha ho
            refine q _ H5 A2 f6 (by rw [← hlen]; exact ok6.cellDrop) (frz_rep (ok5.rep μ2.length y cell hyA hcell) (fun z => ?_) (fun h3 h2 => ?_))
            · rcases z with z | z
              · exact (List.nodup_append.mp ok6.nd).2.2 y z y (by simp) rfl
              · exact ok5.dis y (List.mem_of_getElem? hyA) z
            · exact RepL.low (B := [y] ++ B) (undL_of_pure _ h3) (by rw [← List.append_assoc]; exact h2)
          · cases e7
      · cases e4
    · cases e
  · cases e
theorem d_makeP {live : Bool} {init : List D → Store → Rs D} {n mm : Nat} {js : List Nat} {dd : List D} {dvs : List V} {E : L2.St → XK} {tf : TE} {mf : Mo D} (hd : ∀ A M H, RepL K A M H dvs dd) (h0 : EvD K tf mf) (h : EvS K tas mas) (hk : EvS K tks mks) :
    EvD K (tMakeP (He.ga K c) n mm (modSp K init) js dvs E tf tas tks) (mMakeP live c init n mm js dd mf mas mks) := d_makePs (fun _ _ _ _ h => h) hd h0 h hk
theorem d_cls : EvD K (tC (.ref (He.ga K c))) (mC (.cls c)) := d_c fun _ _ _ => rfl
end
end My
namespace My
open PySem PySem.Spec PyProof.Rows L2
abbrev OTab := List (String × (List D → Store → Rs D))
/-- the own methods nm that a table tells -/
def ownL (K : PySem.W.Frag) (nm : String) (tab : OTab) : List (Addr × Sp) := tab.map fun p => (He.ma K (He.ga K p.1) (nm : Str), modSp K p.2)
/-- what the head tells of them -/
def OwnOk (K : PySem.W.Frag) (nm : String) (tab : OTab) : Prop := ∀ p ∈ tab, Meth K (He.ga K p.1) (nm : Str) (He.ma K (He.ga K p.1) (nm : Str))
theorem lookup_mem {tab : OTab} {c : String} {f : List D → Store → Rs D} (h : tab.lookup c = some f) : (c, f) ∈ tab := by
  induction tab with
  | nil => cases h
  | cons p tab ih =>
    rw [List.lookup_cons] at h
    split at h
    · rename_i e
      cases h
      rw [beq_iff_eq.mp e]
      exact List.mem_cons_self
    · exact List.mem_cons_of_mem _ (ih h)
section
variable {K : PySem.W.Frag} {A : List Addr} {M : Addr → Prop} {μ μ' : Store} {H H' : Hp} {v w : V} {d : D} {xs ds : List D} {k : Nat} {te ta tb : TE} {m ma mb : Mo D} {tas tks : TA} {mas mks : Mo (List D)} {c : String} {ns : List String} {ct : CTab}
/-! ### == and != -/
def mEqA (ct : CTab) (neg : Bool) (tab : OTab) (a b : Mo D) : Mo D := fun env μ => (a env μ).bind fun x μ1 => (b env μ1).bind fun y μ2 => match clsOf μ2 x with
  | some (c, _, _) => (match tab.lookup c, clsOf μ2 y with
    | some f, some (c', _, _) => if ct.names.contains c = true ∧ ct.names.contains c' = true ∧ (c == c' || !isSub ct c' c) = true then (f [x, y] μ2).bind fun r μ3 => match r with
      | .bl z => .ok (.bl (if neg = true then !z else z)) μ3
      | _ => .no else .no
    | _, _ => .no)
  | none => Rs.of (if neg = true then dNe μ2 x y else dEq μ2 x y) μ2
theorem eqA_core {neg : Bool} {tab : OTab} {x y : D} {vx vy : V} {μ2 : Store} {H2 : Hp} {A2 : List Addr} (G : ClsOk K ct) (O : OwnOk K "__eq__" tab) (ok2 : Ok K A2 M μ2 H2) (rx : RepD K A2 M H2 vx x) (ry : RepD K A2 M H2 vy y)
    (e : (match clsOf μ2 x with
      | some (c, _, _) => (match tab.lookup c, clsOf μ2 y with
        | some f, some (c', _, _) => if ct.names.contains c = true ∧ ct.names.contains c' = true ∧ (c == c' || !isSub ct c' c) = true then (f [x, y] μ2).bind fun r μ3 => match r with
          | .bl z => Rs.ok (D.bl (if neg = true then !z else z)) μ3
          | _ => .no else .no
        | _, _ => .no)
      | none => Rs.of (if neg = true then dNe μ2 x y else dEq μ2 x y) μ2) = .ok d μ') {Q : VK} (q : ∀ v H' A', Fut A2 H2 A' H' → Ok K A' M μ' H' → RepD K A' M H' v d → Q v H') :
    if neg = true then rNeA K (ownL K "__eq__" tab) vx vy H2 Q else rEqA K (ownL K "__eq__" tab) vx vy H2 Q := by
  split at e
  · rename_i c ns1 ds1 hx
    split at e
    · rename_i f c' ns2 ds2 hf hy
      split at e
      · rename_i hc
        obtain ⟨r, μ3, e1, e2⟩ := Rs.bind_ok e
        split at e2
        · rename_i z
          cases e2
          obtain ⟨a, xa, us, rfl, ha, _, _⟩ := clsOf_rep ok2 rx hx
          obtain ⟨b, xb, ws, rfl, hb, _, _⟩ := clsOf_rep ok2 ry hy
          have hm := lookup_mem hf
          have mt := O _ hm
          have h1 : c ∈ ct.names := by simpa using hc.1
          have h2 : c' ∈ ct.names := by simpa using hc.2.1
          have hl : (He.ma K (He.ga K c) ("__eq__" : Str), modSp K f) ∈ ownL K "__eq__" tab := List.mem_map_of_mem hm
          cases neg with
          | false =>
            rw [if_neg (by decide)]
            refine .inr ⟨a, _, xa, _, b, _, xb, _, _, _, rfl, rfl, ha, hb, G.nf c h1 c' h2 hc.2.2, mt.at_, mt.fn, hl, A2, M, μ2, [x, y], .bl z, _, ok2, ⟨_, _, rfl, rx, .one ry⟩, e1, fun v H3 A3 f3 ok3 r3 => q v H3 A3 f3 ok3 r3⟩
          | true =>
            rw [if_pos rfl]
            obtain ⟨_, _, n1, n2⟩ := G.tyo c h1
            refine .inr ⟨a, _, xa, _, b, _, xb, _, _, _, rfl, rfl, ha, hb, G.nf c h1 c' h2 hc.2.2, n1, n2, mt.at_, mt.fn, hl, A2, M, μ2, [x, y], .bl z, _, ok2, ⟨_, _, rfl, rx, .one ry⟩, e1, fun v H3 A3 f3 ok3 r3 => ⟨z, r3, q _ H3 A3 f3 ok3 rfl⟩⟩
        · cases e2
      · cases e
    · cases e
  · obtain ⟨e5, rfl⟩ := Rs.of_ok e
    cases neg with
    | false =>
      rw [if_neg (by decide)] at e5 ⊢
      exact .inl (od_eq A2 M _ H2 vx vy x y d ok2 rx ry e5 Q fun z H3 ex r3 => q z H3 A2 (.ex ex) (ok2.ex ex) r3)
    | true =>
      rw [if_pos rfl] at e5 ⊢
      exact .inl (od_ne A2 M _ H2 vx vy x y d ok2 rx ry e5 Q fun z H3 ex r3 => q z H3 A2 (.ex ex) (ok2.ex ex) r3)
theorem d_eqA {tab : OTab} (G : ClsOk K ct) (O : OwnOk K "__eq__" tab) (h : EvD K ta ma) (h2 : EvD K tb mb) : EvD K (tOp (rEqA K (ownL K "__eq__" tab)) ta tb) (mEqA ct false tab ma mb) := fun A M μ H σ env d μ' ok en e Q f => by
  obtain ⟨x, μ1, e1, e2⟩ := Rs.bind_ok e
  obtain ⟨y, μ2, e3, e4⟩ := Rs.bind_ok e2
  refine h A M μ H σ env x μ1 ok en e1 _ fun v H1 A1 f1 ok1 r1 => h2 A1 M μ1 H1 σ env y _ ok1 (en.go f1.go) e3 _ fun w H2 A2 f2 ok2 r2 => ?_
  have := eqA_core (neg := false) G O ok2 (RepD.go f2.go r1) r2 e4 (Q := Q) fun v H3 A3 f3 ok3 r3 => f v H3 A3 ((f1.trans f2).trans f3) ok3 r3
  rw [if_neg (by decide)] at this
  exact this
theorem d_neA {tab : OTab} (G : ClsOk K ct) (O : OwnOk K "__eq__" tab) (h : EvD K ta ma) (h2 : EvD K tb mb) : EvD K (tOp (rNeA K (ownL K "__eq__" tab)) ta tb) (mEqA ct true tab ma mb) := fun A M μ H σ env d μ' ok en e Q f => by
  obtain ⟨x, μ1, e1, e2⟩ := Rs.bind_ok e
  obtain ⟨y, μ2, e3, e4⟩ := Rs.bind_ok e2
  refine h A M μ H σ env x μ1 ok en e1 _ fun v H1 A1 f1 ok1 r1 => h2 A1 M μ1 H1 σ env y _ ok1 (en.go f1.go) e3 _ fun w H2 A2 f2 ok2 r2 => ?_
  have := eqA_core (neg := true) G O ok2 (RepD.go f2.go r1) r2 e4 (Q := Q) fun v H3 A3 f3 ok3 r3 => f v H3 A3 ((f1.trans f2).trans f3) ok3 r3
  rw [if_pos rfl] at this
  exact this
/-! ### in, not in -/
def mInA (ct : CTab) (neg : Bool) (tab : OTab) (a b : Mo D) : Mo D := fun env μ => (a env μ).bind fun y μ1 => (b env μ1).bind fun x μ2 => match clsOf μ2 x with
  | some (c, _, _) => (match tab.lookup c with
    | some f => (f [x, y] μ2).bind fun r μ3 => match r with
      | .bl z => .ok (.bl (if neg = true then !z else z)) μ3
      | _ => .no
    | none => .no)
  | none => Rs.of (if neg = true then dNi μ2 y x else dIn μ2 y x) μ2
theorem d_inA {tab : OTab} (O : OwnOk K "__contains__" tab) (h : EvD K ta ma) (h2 : EvD K tb mb) : EvD K (tOp (rInA K (ownL K "__contains__" tab)) ta tb) (mInA ct false tab ma mb) := fun A M μ H σ env d μ' ok en e Q f => by
  obtain ⟨y, μ1, e1, e2⟩ := Rs.bind_ok e
  obtain ⟨x, μ2, e3, e4⟩ := Rs.bind_ok e2
  refine h A M μ H σ env y μ1 ok en e1 _ fun v H1 A1 f1 ok1 r1 => h2 A1 M μ1 H1 σ env x _ ok1 (en.go f1.go) e3 _ fun w H2 A2 f2 ok2 r2 => ?_
  have ry := RepD.go f2.go r1
  split at e4
  · rename_i c ns1 ds1 hx
    split at e4
    · rename_i g hg
      obtain ⟨r, μ3, e5, e6⟩ := Rs.bind_ok e4
      split at e6
      · rename_i z
        cases e6
        obtain ⟨a, xa, us, rfl, ha, _, _⟩ := clsOf_rep ok2 r2 hx
        have hm := lookup_mem hg
        have mt := O _ hm
        exact .inr ⟨a, _, xa, _, _, _, rfl, ha, mt.at_, mt.fn, List.mem_map_of_mem hm, A2, M, μ2, [x, y], .bl z, _, ok2, ⟨_, _, rfl, r2, .one ry⟩, e5, fun v H3 A3 f3 ok3 r3 => ⟨z, r3, f _ H3 A3 ((f1.trans f2).trans f3) ok3 rfl⟩⟩
      · cases e6
    · cases e4
  · obtain ⟨e5, rfl⟩ := Rs.of_ok e4
    exact .inl (od_in A2 M _ H2 v w y x d ok2 ry r2 e5 Q fun z H3 ex r3 => f z H3 A2 ((f1.trans f2).trans (.ex ex)) (ok2.ex ex) r3)
theorem d_niA {tab : OTab} (O : OwnOk K "__contains__" tab) (h : EvD K ta ma) (h2 : EvD K tb mb) : EvD K (tOp (rNiA K (ownL K "__contains__" tab)) ta tb) (mInA ct true tab ma mb) := fun A M μ H σ env d μ' ok en e Q f => by
  obtain ⟨y, μ1, e1, e2⟩ := Rs.bind_ok e
  obtain ⟨x, μ2, e3, e4⟩ := Rs.bind_ok e2
  refine h A M μ H σ env y μ1 ok en e1 _ fun v H1 A1 f1 ok1 r1 => h2 A1 M μ1 H1 σ env x _ ok1 (en.go f1.go) e3 _ fun w H2 A2 f2 ok2 r2 => ?_
  have ry := RepD.go f2.go r1
  split at e4
  · rename_i c ns1 ds1 hx
    split at e4
    · rename_i g hg
      obtain ⟨r, μ3, e5, e6⟩ := Rs.bind_ok e4
      split at e6
      · rename_i z
        cases e6
        obtain ⟨a, xa, us, rfl, ha, _, _⟩ := clsOf_rep ok2 r2 hx
        have hm := lookup_mem hg
        have mt := O _ hm
        exact .inr ⟨a, _, xa, _, _, _, rfl, ha, mt.at_, mt.fn, List.mem_map_of_mem hm, A2, M, μ2, [x, y], .bl z, _, ok2, ⟨_, _, rfl, r2, .one ry⟩, e5, fun v H3 A3 f3 ok3 r3 => ⟨z, r3, f _ H3 A3 ((f1.trans f2).trans f3) ok3 rfl⟩⟩
      · cases e6
    · cases e4
  · obtain ⟨e5, rfl⟩ := Rs.of_ok e4
    exact .inl (od_ni A2 M _ H2 v w y x d ok2 ry r2 e5 Q fun z H3 ex r3 => f z H3 A2 ((f1.trans f2).trans (.ex ex)) (ok2.ex ex) r3)
/-! ### isinstance with own classes -/
def dIsiC (ct : CTab) (μ : Store) : List D → Option D
  | [x, .ty c] => match clsOf μ x with
    | some (c', _, _) => if ct.names.contains c' = true ∧ knownC.contains c = true then some (.bl false) else none
    | none => dIsi μ [x, .ty c]
  | [x, .cls c] => match clsOf μ x with
    | some (c', _, _) => if ct.names.contains c' = true ∧ ct.names.contains c = true then some (.bl (isSub ct c' c)) else none
    | none => match tyN x with
      | some _ => if ct.names.contains c = true then some (.bl false) else none
      | none => none
  | _ => none
theorem ins_ty {a x : Addr} {fs : List (Str × V)} (G : ClsOk K ct) (hc : c ∈ ct.names) (h : H a = some (.ins (He.ga K c) x fs)) : TyX K H (.ref a) (.ref (He.ga K c)) := by
  obtain ⟨h1, h2, _, _⟩ := G.tyo c hc
  exact .base (.ins h (G.cls c hc) h1 G.oc.1 G.oc.2 h2)
theorem cd_isiC (G : ClsOk K ct) : CbD K (rIsi K) (dIsiC ct) := fun A M μ H vs ds d ok r e Q f => by
  unfold dIsiC at e
  split at e
  · rename_i x c
    split at e
    · rename_i c' ns1 ds1 hx
      split at e
      · rename_i hc
        cases e
        obtain ⟨v, r', rfl, h1, w, r2, rfl, h2, rfl⟩ := r
        cases h2
        obtain ⟨a, xa, us, rfl, ha, _, _⟩ := clsOf_rep ok h1 hx
        exact ⟨_, _, _, _, _, rfl, .ty _, ins_ty G (by simpa using hc.1) ha, G.isiB c' (by simpa using hc.1) c (by simpa using hc.2), f _ H (Evl.Ex.refl _) rfl⟩
      · cases e
    · exact cd_isi A M μ H vs _ d ok r e Q f
  · rename_i x c
    obtain ⟨v, r', rfl, h1, w, r2, rfl, h2, rfl⟩ := r
    cases h2
    split at e
    · rename_i c' ns1 ds1 hx
      split at e
      · rename_i hc
        cases e
        obtain ⟨a, xa, us, rfl, ha, _, _⟩ := clsOf_rep ok h1 hx
        exact ⟨_, _, _, _, _, rfl, .own _, ins_ty G (by simpa using hc.1) ha, G.isi c' (by simpa using hc.1) c (by simpa using hc.2), f _ H (Evl.Ex.refl _) rfl⟩
      · cases e
    · split at e
      · rename_i t ht
        split at e
        · rename_i hc
          cases e
          exact ⟨_, _, _, _, _, rfl, .own _, tyN_rep ok h1 ht, G.isiT t (tyN_known ht) c (by simpa using hc), f _ H (Evl.Ex.refl _) rfl⟩
        · cases e
      · cases e
  · cases e
/-! ### < of rows of texts -/
def dLtA (μ : Store) : D → D → Option D
  | .int a, .int b => some (.bl (decide (a < b)))
  | .str a, .str b => some (.bl (decide (a < b)))
  | x, y => match toDataS μ x, toDataS μ y with
    | some a, some b => if PySem.W.alike a b = true ∧ a.depth ≤ 8 ∧ isNon x = false then some (.bl (PySem.W.dataLt a b)) else none
    | _, _ => none
theorem toDataS_non {x : D} {a : PyData} (h : toDataS μ x = some a) (hn : isNon x = false) : a ≠ .none := by
  intro z
  subst z
  cases x with
  | non => cases hn
  | bl b => cases h
  | int i => cases h
  | str l => cases h
  | ty n => cases h
  | tup ds =>
    obtain ⟨_, _, e⟩ := Option.map_eq_some_iff.mp (show (toDataL ds).map PyData.tuple = _ from h)
    cases e
  | lst ds =>
    obtain ⟨_, _, e⟩ := Option.map_eq_some_iff.mp (show (toDataL ds).map PyData.list = _ from h)
    cases e
  | wl ds =>
    obtain ⟨_, _, e⟩ := Option.map_eq_some_iff.mp (show (toDataL ds).map PyData.list = _ from h)
    cases e
  | ref k =>
    unfold toDataS at h
    dsimp only at h
    split at h
    · obtain ⟨_, _, e⟩ := Option.map_eq_some_iff.mp h
      cases e
    · cases h
  | cls c => cases h
  | obj c ns ds => cases h
  | dic t ks ds => cases h
  | err c ns ds => cases h
theorem od_ltA : OpD K (rLtA K) dLtA := fun A M μ H x y dx dy d ok rx ry e Q f => by
  unfold dLtA at e
  split at e
  · cases e; cases rx; cases ry
    exact .inl (.inl ⟨_, _, rfl, rfl, f _ H (Evl.Ex.refl _) rfl⟩)
  · cases e; cases rx; cases ry
    exact .inl (.inr ⟨_, _, rfl, rfl, f _ H (Evl.Ex.refl _) rfl⟩)
  · split at e
    · rename_i a b ha hb
      split at e
      · rename_i hc
        cases e
        exact .inr ⟨a, b, toDataS_dp ok rx ha, toDataS_dp ok ry hb, hc.1, toDataS_non ha hc.2.2, Nat.le_trans (Nat.min_le_left _ _) hc.2.1, f _ H (Evl.Ex.refl _) rfl⟩
      · cases e
    · cases e
/-! ### slices of tuples, [::-1] -/
def dSlV (μ : Store) (x : D) (lo hi : Option Int) : Option D := match x with
  | .tup xs => some (.tup (cutD xs lo hi))
  | x => dSl μ x lo hi
theorem sd_all : SlD K (rSlV K) dSlV := fun A M μ H x dx lo hi d ok rx e Q f => by
  unfold dSlV at e
  split at e
  · rename_i xs
    cases e
    obtain ⟨p, vs, rfl, hs, r⟩ := rx
    refine .inr ⟨p, vs, rfl, hs.sq, fun hw => ?_, fun hw l hl => f _ _ (Evl.Ex.new hl) ⟨l, _, rfl, .of upd_same (ok.fresh hl), RepL.go (Fut.newO hl).go (cut_rep lo hi r)⟩⟩
    have e1 : cutV vs lo hi = vs := by
      unfold cutV
      rw [hw.1, hw.2]
      simp
    have r2 := cut_rep lo hi r
    rw [e1] at r2
    exact f _ H (Evl.Ex.refl _) ⟨p, vs, rfl, hs, r2⟩
  · exact .inl (sd_any A M μ H x dx lo hi d ok rx e Q f)
theorem RepL.rev : ∀ {ds : List D} {vs : List V}, RepL K A M H vs ds → RepL K A M H vs.reverse ds.reverse
  | [], _, h => by rw [show _ = [] from h]; rfl
  | d :: ds, _, ⟨v, r, e, h, t⟩ => by
    subst e
    rw [List.reverse_cons, List.reverse_cons]
    exact (RepL.rev t).app (.one h)
def mRev (m : Mo D) : Mo D := fun env μ => (m env μ).bind fun x μ1 => match x with
  | .tup xs => .ok (.tup xs.reverse) μ1
  | x => match asS μ1 x with
    | some xs => .ok (.lst xs.reverse) μ1
    | none => .no
theorem d_rev (h : EvD K te m) : EvD K (tRev K te) (mRev m) := fun A M μ H σ env d μ' ok en e Q f => by
  obtain ⟨x, μ1, e1, e2⟩ := Rs.bind_ok e
  split at e2
  · cases e2
    refine .inr (h A M μ H σ env _ _ ok en e1 _ fun v H1 A1 f1 ok1 r1 => ?_)
    obtain ⟨p, vs, rfl, hs, r⟩ := r1
    exact ⟨p, vs, rfl, hs.sq, fun l hl => f _ _ A1 (f1.trans (.newO hl)) (ok1.new hl) ⟨l, _, rfl, .of upd_same (ok1.fresh hl), RepL.go (Fut.newO hl).go r.rev⟩⟩
  · split at e2
    · rename_i xs hx
      cases e2
      refine .inl (h A M μ H σ env _ _ ok en e1 _ fun v H1 A1 f1 ok1 r1 => ?_)
      obtain ⟨p, vs, rfl, hs, r⟩ := asS_rep ok1 r1 hx
      exact ⟨p, vs, rfl, hs, fun l hl => f _ _ A1 (f1.trans (.newO hl)) (ok1.new hl) ⟨l, _, rfl, ⟨upd_same, ok1.fresh hl⟩, RepL.go (Fut.newO hl).go r.rev⟩⟩
    · cases e2
/-! ### zip of two lists, of two tuples -/
def zipL (xs ys : List D) : List D := (List.range (min xs.length ys.length)).map fun i => .tup [xs.getD i .non, ys.getD i .non]
def mZip (m : Mo (List D)) : Mo (List D × Gd) := fun env μ => (m env μ).bind fun ds μ1 => match ds with
  | [.lst xs, .lst ys] => .ok (zipL xs ys, none) μ1
  | [.tup xs, .tup ys] => .ok (zipL xs ys, none) μ1
  | _ => .no
theorem zip_carry {A1 A' : List Addr} {M M' : Addr → Prop} {H1 H' : Hp} (hm : ∀ a, M' a → M a ∨ H1 a = none) (fu : Fut A1 H1 A' H') : Go A1 M H1 A' M' H' := ⟨(fu.go (M := M)).ix, fun a z => by
  rcases z with z | z
  · exact (fu.go (M := M)).new a (.inl z)
  · exact (hm a z).imp .inr id, (fu.go (M := M)).pr⟩
theorem zip_item {i : Nat} {xs ys : List D} {d : D} (h : (zipL xs ys)[i]? = some d) : ∃ x y, xs[i]? = some x ∧ ys[i]? = some y ∧ d = .tup [x, y] := by
  have hlt := (List.getElem?_eq_some_iff.mp h).1
  unfold zipL at h hlt
  rw [List.length_map, List.length_range] at hlt
  rw [List.getElem?_map, List.getElem?_range hlt, Option.map_some] at h
  have h1 : i < xs.length := by omega
  have h2 : i < ys.length := by omega
  refine ⟨xs[i], ys[i], List.getElem?_eq_getElem h1, List.getElem?_eq_getElem h2, ?_⟩
  rw [List.getD_eq_getElem?_getD, List.getD_eq_getElem?_getD, List.getElem?_eq_getElem h1, List.getElem?_eq_getElem h2] at h
  cases h
  rfl
theorem i_zip (h : EvS K tas mas) : ItD K (RZ.iZipA K tas) (mZip mas) := fun A M μ H σ env items gd μ' ok en e R f => by
  obtain ⟨ds, μ1, e1, e2⟩ := Rs.bind_ok e
  have hl : ∀ xs ys : List D, (zipL xs ys).length = min xs.length ys.length := fun xs ys => by simp [zipL]
  split at e2
  · rename_i xs ys
    cases e2
    refine h A M μ H σ env _ _ ok en e1 _ fun vs H1 A1 f1 ok1 r => ?_
    obtain ⟨v, r', rfl, h1, w, r2, rfl, h2, rfl⟩ := r
    obtain ⟨p, us, rfl, hp, rp⟩ := h1
    obtain ⟨q, ws, rfl, hq, rq⟩ := h2
    refine ⟨p, q, us, ws, rfl, .inl ⟨hp.sq, hq.sq, f _ H1 A1 f1 ok1 ⟨fun i A' M' μ' H' hm fu ok _ hi => ?_, fun i A' M' μ' H' x H'' d hm fu ok _ hi hy => ?_, fun A' M' μ' H' hm fu ok _ => ?_⟩⟩⟩
    · rw [hl] at hi
      have g := zip_carry (M := M) hm fu
      exact ⟨us, ws, _, _, .inl (.inl (g.pr _ _ hp.2 hp.1)), .inl (.inl (g.pr _ _ hq.2 hq.1)), List.getElem?_eq_getElem (by rw [rp.len]; omega), List.getElem?_eq_getElem (by rw [rq.len]; omega)⟩
    · obtain ⟨T, x1, y1, rfl, hT, rfl, hx1, hy1⟩ := hy
      have g := zip_carry (M := M) hm fu
      obtain ⟨a, b, ha, hb, rfl⟩ := zip_item hi
      obtain ⟨u1, hu1, ru1⟩ := (RepL.go g rp).get ha
      obtain ⟨u2, hu2, ru2⟩ := (RepL.go g rq).get hb
      rw [hx1 us (.inl (.inl (g.pr _ _ hp.2 hp.1)))] at hu1
      rw [hy1 ws (.inl (.inl (g.pr _ _ hq.2 hq.1)))] at hu2
      cases hu1; cases hu2
      exact ⟨Evl.Ex.new hT, T, _, rfl, .of upd_same (ok.fresh hT), _, _, rfl, RepD.go (Fut.newO hT).go ru1, .one (RepD.go (Fut.newO hT).go ru2)⟩
    · have g := zip_carry (M := M) hm fu
      refine ⟨us, ws, .inl (.inl (g.pr _ _ hp.2 hp.1)), .inl (.inl (g.pr _ _ hq.2 hq.1)), ?_⟩
      rw [hl, rp.len, rq.len]
      omega
  · rename_i xs ys
    cases e2
    refine h A M μ H σ env _ _ ok en e1 _ fun vs H1 A1 f1 ok1 r => ?_
    obtain ⟨v, r', rfl, h1, w, r2, rfl, h2, rfl⟩ := r
    obtain ⟨p, us, rfl, hp, rp⟩ := h1
    obtain ⟨q, ws, rfl, hq, rq⟩ := h2
    have sq1 : ∀ {A' : List Addr} {M' : Addr → Prop} {H' : Hp}, Go A1 M H1 A' M' H' → SqT K H' p us := fun {A' M' H'} g => (show StM K (AM A' M') H' p us from hp.imp g.rd id).sq
    have sq2 : ∀ {A' : List Addr} {M' : Addr → Prop} {H' : Hp}, Go A1 M H1 A' M' H' → SqT K H' q ws := fun {A' M' H'} g => (show StM K (AM A' M') H' q ws from hq.imp g.rd id).sq
    refine ⟨p, q, us, ws, rfl, .inr ⟨hp.sq, hq.sq, f _ H1 A1 f1 ok1 ⟨fun i A' M' μ' H' hm fu ok _ hi => ?_, fun i A' M' μ' H' x H'' d hm fu ok _ hi hy => ?_, fun A' M' μ' H' hm fu ok _ => ?_⟩⟩⟩
    · rw [hl] at hi
      have g := zip_carry (M := M) hm fu
      exact ⟨us, ws, _, _, sq1 g, sq2 g, List.getElem?_eq_getElem (by rw [rp.len]; omega), List.getElem?_eq_getElem (by rw [rq.len]; omega)⟩
    · obtain ⟨T, x1, y1, rfl, hT, rfl, hx1, hy1⟩ := hy
      have g := zip_carry (M := M) hm fu
      obtain ⟨a, b, ha, hb, rfl⟩ := zip_item hi
      obtain ⟨u1, hu1, ru1⟩ := (RepL.go g rp).get ha
      obtain ⟨u2, hu2, ru2⟩ := (RepL.go g rq).get hb
      rw [hx1 us (sq1 g)] at hu1
      rw [hy1 ws (sq2 g)] at hu2
      cases hu1; cases hu2
      exact ⟨Evl.Ex.new hT, T, _, rfl, .of upd_same (ok.fresh hT), _, _, rfl, RepD.go (Fut.newO hT).go ru1, .one (RepD.go (Fut.newO hT).go ru2)⟩
    · have g := zip_carry (M := M) hm fu
      refine ⟨us, ws, sq1 g, sq2 g, ?_⟩
      rw [hl, rp.len, rq.len]
      omega
  · cases e2
end
/-! ### defs at an address, by their model -/
section
variable {P : Program} {w : World} {K : PySem.W.Frag} {mg : Str → Option Value} {base : Heap}
/-- a def as the head tells it -/
structure DfA (K : PySem.W.Frag) (a : Addr) (x q : Str) (st : Stmt) (dvs : List V) (kvs : List (Str × V)) : Prop where
  ex : ∃ fd, FunD K x q (defArgs st) (defBody st) (defScope st) dvs kvs a fd
theorem calF_of {a : Addr} {x q : Str} {st : Stmt} {dvs : List V} {kvs : List (Str × V)} {N ps : List Str} {k : Nat} {sp : Sp} (F : DfA K a x q st dvs kvs) (S : FnScope N ps (defScope st)) (len : ∀ vs H Q E, sp vs H Q E → vs.length = ps.length)
    (hbody : ∀ (cdv : Value) (A : Around) (outer : List Env) (s : Shared) (H : Hp) (vs : List V) (Q : VK) (E : XK), Room k (A.deeper (envOfC q (defScope st) s.heap.objs.size a cdv)) → sp vs H Q E →
      ∃ t, PSs (cxOf CX0 P w K mg base N q (defScope st) a cdv A outer s H E).nox (defBody st) t ∧ t { nx := fun _ H' => Q .non H', rt := Q } (start N vs) H) : CalF P w K mg base CX0 (k + 1) a x q st dvs kvs ps sp := by
  obtain ⟨fd, F⟩ := F.ex
  refine ⟨fd, F.ok S len fun cdv A outer s H vs Q E hr h => ?_, F⟩
  obtain ⟨t, h1, h2⟩ := hbody cdv A outer s H vs Q E hr h
  exact ⟨t, PSs.nox h1, h2⟩
theorem calF_D {a : Addr} {x q : Str} {st : Stmt} {dvs : List V} {kvs : List (Str × V)} {N ps : List Str} {k nl : Nat} {body : MS} (F : DfA K a x q st dvs kvs) (S : FnScope N ps (defScope st)) (hN : N.length = ps.length + nl)
    (hb : ∀ (cdv : Value) (A : Around) (outer : List Env) (s : Shared) (H : Hp) (E : XK), Room k (A.deeper (envOfC q (defScope st) s.heap.objs.size a cdv)) →
      ∃ t, PSs (cxOf CX0 P w K mg base N q (defScope st) a cdv A outer s H E).nox (defBody st) t ∧ StD K none t body) : CalF P w K mg base CX0 (k + 1) a x q st dvs kvs ps (modSp K (fnD ps.length nl body)) := by
  refine calF_of F S (fun vs H Q E h => ?_) (fun cdv A outer s H vs Q E hr h => ?_)
  · obtain ⟨A, M, μ, ds, d, μ', ok, r, e, q⟩ := h
    unfold fnD at e
    split at e
    · rename_i hl
      rw [r.len, hl]
    · cases e
  · obtain ⟨A0, M, μ, ds, d, μ', ok, r, e, q⟩ := h
    obtain ⟨t, h1, h2⟩ := hb cdv A outer s H E hr
    refine ⟨t, h1, ?_⟩
    unfold fnD at e
    split at e
    · rename_i hl
      refine h2 A0 M μ H _ _ _ ok (env_start r (by rw [hl]; exact hN)) ?_
      split at e
      · rename_i en2 μ2 eb
        cases e
        rw [eb]
        intro σ' H' A' f' ok' _
        obtain ⟨B, rfl⟩ := f'.pre
        exact q .non H' A0 ⟨⟨[], by simp⟩, fun a h => .inl h, f'.pr⟩ (by rw [← ok.len]; exact ok'.cellDrop) rfl
      · rename_i d2 μ2 eb
        rw [eb]
        intro v H' A' f' ok' r'
        obtain ⟨g1, g2, g3⟩ := fin_rep f' ok.len ok' r' e
        exact q v H' A0 g1 g2 g3
      · cases e
    · cases e
theorem calF_K {a : Addr} {x q : Str} {st : Stmt} {dvs : List V} {kvs : List (Str × V)} {N ps : List Str} {k nl : Nat} {body : MS} (F : DfA K a x q st dvs kvs) (S : FnScope N ps (defScope st)) (hN : N.length = ps.length + nl)
    (hb : ∀ (cdv : Value) (A : Around) (outer : List Env) (s : Shared) (H : Hp) (E : XK), Room k (A.deeper (envOfC q (defScope st) s.heap.objs.size a cdv)) →
      ∃ t, PSs (cxOf CX0 P w K mg base N q (defScope st) a cdv A outer s H E).nox (defBody st) t ∧ StD K none t body) : CalF P w K mg base CX0 (k + 1) a x q st dvs kvs ps (modSp K (fnK ps.length nl body)) := by
  refine calF_of F S (fun vs H Q E h => ?_) (fun cdv A outer s H vs Q E hr h => ?_)
  · obtain ⟨A, M, μ, ds, d, μ', ok, r, e, q⟩ := h
    unfold fnK at e
    split at e
    · rename_i hl
      rw [r.len, hl]
    · cases e
  · obtain ⟨A0, M, μ, ds, d, μ', ok, r, e, q⟩ := h
    obtain ⟨t, h1, h2⟩ := hb cdv A outer s H E hr
    refine ⟨t, h1, ?_⟩
    unfold fnK at e
    split at e
    · rename_i hl
      refine h2 A0 M μ H _ _ _ ok (env_start r (by rw [hl]; exact hN)) ?_
      split at e
      · rename_i en2 μ2 eb
        cases e
        rw [eb]
        exact fun σ' H' A' f' ok' _ => q .non H' A' f' ok' rfl
      · rename_i d2 μ2 eb
        cases e
        rw [eb]
        exact fun v H' A' f' ok' r' => q v H' A' f' ok' r'
      · cases e
    · cases e
end
end My
namespace My
open PySem PySem.Spec PyProof.Rows L2
/-! ### defs that are called where no repr is under way -/
section
variable {P : Program} {w : World} {K : PySem.W.Frag} {mg : Str → Option Value} {base : Heap}
theorem cal_DG {x : Str} {st : Stmt} {N ps : List Str} {k nl : Nat} {body : MS} (F : Df K mg x st) (S : FnScope N ps (defScope st)) (hN : N.length = ps.length + nl)
    (hbd : ∀ (kV doc pm : Value) (an : Option Addr) (cdv ct : Value) (us : List Value), us.length = ps.length → bindArgs (PySem.W.fnOf x x (defArgs st) (defBody st) (defScope st) .none kV doc pm an cdv ct) ⟨us, []⟩ = pure (ps.zip us))
    (hb : ∀ (f : Addr) (cdv : Value) (A : Around) (outer : List Env) (s : Shared) (H : Hp) (E : XK), Room k (A.deeper (envOfC x (defScope st) s.heap.objs.size f cdv)) → A.guards = some [] →
      ∃ t, PSs (cxOf CX0 P w K mg base N x (defScope st) f cdv A outer s H E).nox (defBody st) t ∧ StD K none t body) : CalG P w K mg base (k + 1) x ps (modSp K (fnD ps.length nl body)) := by
  refine F.calG S (fun vs H Q E h => ?_) hbd (fun f cdv A outer s H vs Q E hr hg h => ?_)
  · obtain ⟨A, M, μ, ds, d, μ', ok, r, e, q⟩ := h
    unfold fnD at e
    split at e
    · rename_i hl
      rw [r.len, hl]
    · cases e
  · obtain ⟨A0, M, μ, ds, d, μ', ok, r, e, q⟩ := h
    obtain ⟨t, h1, h2⟩ := hb f cdv A outer s H E hr hg
    refine ⟨t, h1, ?_⟩
    unfold fnD at e
    split at e
    · rename_i hl
      refine h2 A0 M μ H _ _ _ ok (env_start r (by rw [hl]; exact hN)) ?_
      split at e
      · rename_i en2 μ2 eb
        cases e
        rw [eb]
        intro σ' H' A' f' ok' _
        obtain ⟨B, rfl⟩ := f'.pre
        exact q .non H' A0 ⟨⟨[], by simp⟩, fun a h => .inl h, f'.pr⟩ (by rw [← ok.len]; exact ok'.cellDrop) rfl
      · rename_i d2 μ2 eb
        rw [eb]
        intro v H' A' f' ok' r'
        obtain ⟨g1, g2, g3⟩ := fin_rep f' ok.len ok' r' e
        exact q v H' A0 g1 g2 g3
      · cases e
    · cases e
theorem cal_KG {x : Str} {st : Stmt} {N ps : List Str} {k nl : Nat} {body : MS} (F : Df K mg x st) (S : FnScope N ps (defScope st)) (hN : N.length = ps.length + nl)
    (hbd : ∀ (kV doc pm : Value) (an : Option Addr) (cdv ct : Value) (us : List Value), us.length = ps.length → bindArgs (PySem.W.fnOf x x (defArgs st) (defBody st) (defScope st) .none kV doc pm an cdv ct) ⟨us, []⟩ = pure (ps.zip us))
    (hb : ∀ (f : Addr) (cdv : Value) (A : Around) (outer : List Env) (s : Shared) (H : Hp) (E : XK), Room k (A.deeper (envOfC x (defScope st) s.heap.objs.size f cdv)) → A.guards = some [] →
      ∃ t, PSs (cxOf CX0 P w K mg base N x (defScope st) f cdv A outer s H E).nox (defBody st) t ∧ StD K none t body) : CalG P w K mg base (k + 1) x ps (modSp K (fnK ps.length nl body)) := by
  refine F.calG S (fun vs H Q E h => ?_) hbd (fun f cdv A outer s H vs Q E hr hg h => ?_)
  · obtain ⟨A, M, μ, ds, d, μ', ok, r, e, q⟩ := h
    unfold fnK at e
    split at e
    · rename_i hl
      rw [r.len, hl]
    · cases e
  · obtain ⟨A0, M, μ, ds, d, μ', ok, r, e, q⟩ := h
    obtain ⟨t, h1, h2⟩ := hb f cdv A outer s H E hr hg
    refine ⟨t, h1, ?_⟩
    unfold fnK at e
    split at e
    · rename_i hl
      refine h2 A0 M μ H _ _ _ ok (env_start r (by rw [hl]; exact hN)) ?_
      split at e
      · rename_i en2 μ2 eb
        cases e
        rw [eb]
        exact fun σ' H' A' f' ok' _ => q .non H' A' f' ok' rfl
      · rename_i d2 μ2 eb
        cases e
        rw [eb]
        exact fun v H' A' f' ok' r' => q v H' A' f' ok' r'
      · cases e
    · cases e
theorem law_MG {x : Str} {st : Stmt} {N : List Str} {p : Str} {k nl : Nat} {body : MS} {f : Addr} {fd : FuncData} (F : FunD K x x (defArgs st) (defBody st) (defScope st) [] [] f fd) (S : FnScope N [p] (defScope st)) (hN : N.length = 1 + nl)
    (hb : ∀ (cdv : Value) (A : Around) (outer : List Env) (s : Shared) (H : Hp) (E : XK), Room k (A.deeper (envOfC x (defScope st) s.heap.objs.size f cdv)) → A.guards = some [] →
      ∃ t, PSs (cxOf CX0 P w K mg base N x (defScope st) f cdv A outer s H E).nox (defBody st) t ∧ StD K none t body)
    (hm : ∀ ns : List Int, ns.length ≤ 63 → ∃ μ', body (some (.wl (ns.map D.int)) :: List.replicate nl none) [] = .rt (.bl true) μ') : FnG P w K mg base CX0 (k + 1) f fd [p] (sp_lawM K) := by
  refine fnG_of F S (fun vs H Q E h => ?_) (fun cdv A outer s H vs Q E hr hg h => ?_)
  · obtain ⟨a, ns, rfl, _⟩ := h
    rfl
  · obtain ⟨a, ns, rfl, hS, hl, q⟩ := h
    obtain ⟨t, h1, h2⟩ := hb cdv A outer s H E hr hg
    refine ⟨t, PSs.nox h1, ?_⟩
    obtain ⟨μ', e⟩ := hm ns hl
    have ok : Ok K [] (fun _ => False) [] H := ⟨List.nodup_nil, rfl, fun k a c h => (nomatch h), fun a h => h.elim, fun a h => nomatch h⟩
    have r : RepL K [] (fun _ => False) H [.ref a] [.wl (ns.map D.int)] := .one ⟨a, ns.map V.int, rfl, .ofL hS (fun z => z.elim (fun z => nomatch z) id), repL_ints ns⟩
    refine h2 [] _ [] H _ _ _ ok (env_start r hN) ?_
    show Post K none [] _ H _ (body (some (.wl (ns.map D.int)) :: List.replicate nl none) [])
    rw [e]
    intro v H' A' _ _ r'
    rw [show v = _ from r']
    exact q H'
end
section
variable {K : PySem.W.Frag} {A : List Addr} {M : Addr → Prop} {μ μ' : Store} {H H' : Hp} {v w : V} {d : D} {xs ds : List D} {k : Nat} {te ta tb : TE} {m ma mb : Mo D} {tas tks : TA} {mas mks : Mo (List D)} {ct : CTab}
/-! ### repr -/
def rReprA (K : PySem.W.Frag) : List V → Hp → VK → Prop := fun xs H Q => rRepr K xs H Q ∨ ∃ i : Int, xs = [.int i] ∧ i.natAbs.log2 < 1920 ∧ Q (.str (toString i)) H
theorem call_reprA {X : Cx} (hu : X.A.units + 64 < cLine) (hgd : X.A.guards = some []) (hK : X.K = K := by rfl) : CallR X (.builtin "repr") (rReprA K) := by
  intro pins s σ H xs us Q I r h
  rcases h with h | ⟨i, rfl, hz, q⟩
  · exact call_reprD hu hgd hK pins s σ H xs us Q I r h
  · obtain ⟨u, rfl, t, rfl⟩ := vals1 r
    exact PySem.P.repr_of_int hz ⟨.str _, H, I.tok _, ⟨_, rfl⟩, q⟩
def boxD : PyData → Bool
  | .list _ => true
  | .tuple _ => true
  | _ => false
def dRepr (μ : Store) : List D → Option D
  | [.int i] => if i.natAbs.log2 < 1920 then some (.str (toString i : Str).cps.toList) else none
  | [x] => match toDataS μ x with
    | some d => if boxD d = true ∧ d.showable = true ∧ d.hasDict = false ∧ d.depth ≤ 8 ∧ d.shown.length ≤ sizeLine then some (.str d.shown.cps.toList) else none
    | none => none
  | _ => none
theorem str_eta (x : Str) : SX.S x.cps.toList = x := by
  cases x
  simp [SX.S]
theorem cd_repr : CbD K (rReprA K) dRepr := fun A M μ H vs ds d ok r e Q f => by
  unfold dRepr at e
  split at e
  · rename_i i
    split at e
    · rename_i hz
      cases e
      obtain ⟨v, r', rfl, h1, rfl⟩ := r
      cases h1
      exact .inr ⟨i, rfl, hz, f _ H (Evl.Ex.refl _) (by show V.str _ = V.str _; rw [str_eta])⟩
    · cases e
  · rename_i x hx
    split at e
    · rename_i dd hd
      split at e
      · rename_i hc
        cases e
        obtain ⟨v, r', rfl, h1, rfl⟩ := r
        have hdp := toDataS_dp ok h1 hd
        refine .inl ⟨v, dd, rfl, hdp, ?_, hc.2.1, hc.2.2.1, hc.2.2.2.1, hc.2.2.2.2, f _ H (Evl.Ex.refl _) (by show V.str _ = V.str _; rw [str_eta])⟩
        have hb := hc.1
        cases hdp <;> first | exact ⟨_, rfl⟩ | cases hb
      · cases e
    · cases e
  · cases e
/-! ### str(x) -/
def mStrO (tab : OTab) (m : Mo (List D)) : Mo D := fun env μ => (m env μ).bind fun ds μ1 => match ds with
  | [.str l] => .ok (.str l) μ1
  | [x] => (match clsOf μ1 x with
    | some (c, _, _) => (match tab.lookup c with
      | some f => (f [x] μ1).bind fun r μ2 => match r with
        | .str l => .ok (.str l) μ2
        | _ => .no
      | none => .no)
    | none => .no)
  | _ => .no
theorem d_strO {tab : OTab} (O : OwnOk K "__str__" tab) (h : EvS K tas mas) : EvD K (tCB (rStrO K (ownL K "__str__" tab)) tas) (mStrO tab mas) := fun A M μ H σ env d μ' ok en e Q f => by
  obtain ⟨ds, μ1, e1, e2⟩ := Rs.bind_ok e
  refine h A M μ H σ env ds μ1 ok en e1 _ fun vs H1 A1 f1 ok1 r1 => ?_
  split at e2
  · cases e2
    obtain ⟨v, r', rfl, h1, rfl⟩ := r1
    cases h1
    exact .inl ⟨_, rfl, f _ H1 A1 f1 ok1 rfl⟩
  · rename_i x hx
    split at e2
    · rename_i c ns1 ds1 hcl
      split at e2
      · rename_i g hg
        obtain ⟨r, μ3, e3, e4⟩ := Rs.bind_ok e2
        split at e4
        · rename_i l
          cases e4
          obtain ⟨v, r', rfl, h1, rfl⟩ := r1
          obtain ⟨a, xa, us, rfl, ha, _, _⟩ := clsOf_rep ok1 h1 hcl
          have hm := lookup_mem hg
          have mt := O _ hm
          refine .inr ⟨a, _, xa, _, _, _, rfl, ha, mt.at_, mt.fn, List.mem_map_of_mem hm, A1, M, μ1, [x], .str l, _, ok1, .one h1, e3, fun v H3 A3 f3 ok3 r3 => ⟨_, r3, f _ H3 A3 (f1.trans f3) ok3 rfl⟩⟩
        · cases e4
      · cases e2
    · cases e2
  · cases e2
/-! ### f"{x}" of a text -/
def mFmt (m : Mo D) : Mo D := fun env μ => (m env μ).bind fun d μ1 => match d with
  | .str l => if l.length ≤ 100000 then .ok (.str l) μ1 else .no
  | _ => .no
theorem d_fmt (h : EvD K te m) : EvD K (tFmt te) (mFmt m) := fun A M μ H σ env d μ' ok en e Q f => by
  obtain ⟨x, μ1, e1, e2⟩ := Rs.bind_ok e
  refine h A M μ H σ env x μ1 ok en e1 _ fun v H1 A1 f1 ok1 r1 => ?_
  split at e2
  · rename_i l
    split at e2
    · rename_i hl
      cases e2
      cases r1
      exact .inl ⟨SX.S l, rfl, by rw [SX.S_len]; exact Evl.sz_of hl, f _ H1 A1 f1 ok1 rfl⟩
    · cases e2
  · cases e2
/-! ### an empty dict that stays -/
theorem d_dic0 : EvD K tDNewK (mC (.dic false [] [])) := fun A M μ H σ env d μ' ok en e Q f => by
  cases e
  intro p hp
  refine f _ _ A (.ex (Evl.Ex.new hp)) (ok.new hp) ⟨p, [], rfl, ⟨upd_same, fun z => ok.alive z hp⟩, ⟨rfl, rfl⟩, rfl⟩
end
end My
namespace My
open PySem PySem.Spec PyProof.Rows L2
/-! ### classmethods, def m(cls, .., *rest) -/
/-- the def of a classmethod -/
def gc (K : PySem.W.Frag) (c m : Str) : Addr := He5.wf K (He.ga K c) "classmethod" m
structure CM (K : PySem.W.Frag) (c m : Str) : Prop where
  rd : ClX.CRead K (He.ga K c) (.type "type")
  mt : ClX.CMet K (He.ga K c) (.type "type") m (He.ma K (He.ga K c) m) (gc K c m)
def cmB (K : PySem.W.Frag) (c m : Str) : Bool := PySem.W.readsIn K (He.ga K c) (.type "type") && (He5.wrapB K (He.ga K c) "classmethod" "classmethod.__get__" m && PySem.W.fnIn K (gc K c m))
theorem cmB_ok {K : PySem.W.Frag} {c m : Str} (h : cmB K c m = true) : CM K c m := by
  obtain ⟨h1, h⟩ := He.ba h
  obtain ⟨h2, h3⟩ := He.ba h
  refine ⟨⟨h1, ?_⟩, He5.cmet_of h2 h3⟩
  unfold PySem.W.readsIn at h1
  obtain ⟨h, _⟩ := He.ba h1
  obtain ⟨h, _⟩ := He.ba h
  obtain ⟨h, h3⟩ := He.ba h
  obtain ⟨_, h2⟩ := He.ba h
  unfold PySem.W.specialIn
  rw [beq_iff_eq.mp h2, Option.bind_some]
  exact beq_iff_eq.mp h3
def starSp (n : Nat) (sp : Sp) : Sp := fun vs H Q E => ∃ ws rest, vs = ws ++ rest ∧ ws.length = n ∧ rest.length ≤ sizeLine ∧ ∀ p, H p = none → sp (ws ++ [V.ref p]) (upd H p (.tup rest)) Q E
section
variable {P : Program} {w : World} {K : PySem.W.Frag} {mg : Str → Option Value} {base : Heap}
theorem calS_K {a : Addr} {x q pv : Str} {st : Stmt} {kvs : List (Str × V)} {N ps : List Str} {k nl : Nat} {body : MS} (F : DfA K a x q st [] kvs) (S : FnScope N (ps ++ [pv]) (defScope st)) (hN : N.length = ps.length + 1 + nl)
    (hbd : ∀ (kV doc pm : Value) (an : Option Addr) (cdv ct : Value) (us rest : List Value), us.length = ps.length → bindArgs (PySem.W.fnOf x q (defArgs st) (defBody st) (defScope st) .none kV doc pm an cdv ct) ⟨us ++ rest, []⟩ = (newTuple rest >>= fun t => pure (ps.zip us ++ [(pv, t)])))
    (hb : ∀ (cdv : Value) (A : Around) (outer : List Env) (s : Shared) (H : Hp) (E : XK), Room k (A.deeper (envOfC q (defScope st) s.heap.objs.size a cdv)) →
      ∃ t, PSs (cxOf CX0 P w K mg base N q (defScope st) a cdv A outer s H E).nox (defBody st) t ∧ StD K none t body) : FnR P w K mg base CX0 (k + 1) a (starSp ps.length (modSp K (fnK (ps.length + 1) nl body))) := by
  obtain ⟨fd, F⟩ := F.ex
  obtain ⟨oc, od, dV, kV, doc, pm, an, cdv, ct, osl, rfl, lk, hcd, hD, _⟩ := F.ex
  rcases hD with ⟨_, rfl⟩ | ⟨z, _⟩
  · refine StX.fn_star lk hcd S StX.cxUp_none (hbd kV doc pm an cdv ct) fun A outer s H vs Q E hr h => ?_
    obtain ⟨A0, M, μ, ds, d, μ', ok, r, e, q⟩ := h
    obtain ⟨t, h1, h2⟩ := hb cdv A outer s H E hr
    refine ⟨t, PSs.nox h1, ?_⟩
    unfold fnK at e
    split at e
    · rename_i hl
      refine h2 A0 M μ H _ _ _ ok (env_start r (by rw [hl]; exact hN)) ?_
      split at e
      · rename_i en2 μ2 eb
        cases e
        rw [eb]
        exact fun σ' H' A' f' ok' _ => q .non H' A' f' ok' rfl
      · rename_i d2 μ2 eb
        cases e
        rw [eb]
        exact fun v H' A' f' ok' r' => q v H' A' f' ok' r'
      · cases e
    · cases e
  · exact absurd rfl z
end
section
variable {K : PySem.W.Frag} {A : List Addr} {M : Addr → Prop} {μ μ' : Store} {H H' : Hp} {v w : V} {d : D} {xs ds : List D} {k : Nat} {te ta tb : TE} {m ma mb : Mo D} {tas tks : TA} {mas mks : Mo (List D)}
/-- C.m(..), m(cls, *rest) -/
def mMethC (c : String) (f : List D → Store → Rs D) (o : Mo D) (a : Mo (List D)) : Mo D := fun env μ => (o env μ).bind fun x μ1 => match x with
  | .cls c' => if c' = c then (a env μ1).bind fun ds μ2 => if ds.length ≤ 100000 then f [.cls c, .tup ds] μ2 else .no else .no
  | _ => .no
theorem d_methC {c : String} {f : List D → Store → Rs D} (h : EvD K ta ma) (h2 : EvS K tas mas) : EvD K (ClX.tCMeth (He.ga K c) (starSp 1 (modSp K f)) E0 ta tas) (mMethC c f ma mas) := fun A M μ H σ env d μ' ok en e Q q => by
  obtain ⟨x, μ1, e1, e2⟩ := Rs.bind_ok e
  split at e2
  · rename_i c'
    split at e2
    · rename_i hc
      subst hc
      obtain ⟨ds, μ2, e3, e4⟩ := Rs.bind_ok e2
      split at e4
      · rename_i hl
        refine h A M μ H σ env _ μ1 ok en e1 _ fun v H1 A1 f1 ok1 r1 => ⟨r1, ?_⟩
        refine h2 A1 M μ1 H1 σ env ds μ2 ok1 (en.go f1.go) e3 _ fun vs H2 A2 f2 ok2 r2 => ?_
        refine ⟨[.ref (He.ga K c')], vs, rfl, rfl, by rw [r2.len]; exact Evl.sz_of hl, fun p hp => ?_⟩
        refine ⟨A2, M, μ2, [.cls c', .tup ds], d, μ', ok2.new hp, ⟨_, _, rfl, rfl, .one ⟨p, vs, rfl, .of upd_same (ok2.fresh hp), RepL.go (Fut.newO hp).go r2⟩⟩, e4, fun v H3 A3 f3 ok3 r3 => q v H3 A3 ((f1.trans f2).trans ((Fut.newO hp).trans f3)) ok3 r3⟩
      · cases e4
    · cases e2
  · cases e2
end
end My
namespace My
open PySem PySem.Spec PyProof.Rows L2
/-! ### errors in the model -/
def Rs.nr {α : Type} : Rs α → Rs α
  | .ok a μ => .ok a μ
  | _ => .no
@[simp] theorem Rs.nr_k {α : Type} {a : α} {μ : Store} : (Rs.ok a μ).nr = .ok a μ := rfl
theorem Rs.nr_ok {α : Type} {r : Rs α} {a : α} {μ : Store} (h : r.nr = .ok a μ) : r = .ok a μ := by cases r <;> cases h <;> rfl
theorem Rs.nr_rz {α : Type} {r : Rs α} {c : String} {ns : List String} {xs : List D} {μ : Store} (h : r.nr = .rz c ns xs μ) : False := by cases r <;> cases h
theorem Rs.bind_rz {α β : Type} {r : Rs α} {f : α → Store → Rs β} {c : String} {ns : List String} {xs : List D} {μ : Store} (h : r.bind f = .rz c ns xs μ) : r = .rz c ns xs μ ∨ ∃ a μ1, r = .ok a μ1 ∧ f a μ1 = .rz c ns xs μ := by
  cases r with
  | ok a μ1 => exact .inr ⟨a, μ1, rfl, h⟩
  | no => cases h
  | rz => cases h; exact .inl rfl
theorem Rs.nr_bind_rz {α β : Type} {r : Rs α} {f : α → Store → Rs β} {c : String} {ns : List String} {xs : List D} {μ : Store} (h : r.nr.bind f = .rz c ns xs μ) : ∃ a μ1, r = .ok a μ1 ∧ f a μ1 = .rz c ns xs μ := by
  rcases Rs.bind_rz h with h | ⟨a, μ1, e, h⟩
  · exact (Rs.nr_rz h).elim
  · exact ⟨a, μ1, Rs.nr_ok e, h⟩
/-- a reading that may raise -/
def EvZ (K : PySem.W.Frag) (W : WX) (te : TE) (m : Mo D) : Prop := ∀ (A : List Addr) (M : Addr → Prop) (μ : Store) (H : Hp) (σ : L2.St) (env : En) (c : String) (ns : List String) (xs : List D) (μ' : Store), Ok K A M μ H → EnvRep K A M H σ env → m env μ = .rz c ns xs μ' →
  (∀ H' A' cls od, Fut A H A' H' → Ok K A' M μ' H' → RepX K A' M H' c ns xs cls od → W cls od σ H') → ∀ Q : VK, te σ H Q
structure EvX (K : PySem.W.Frag) (W : WX) (te : TE) (m : Mo D) : Prop where
  ok : EvD K te m
  rz : EvZ K W te m
def modSpX (K : PySem.W.Frag) (m : List D → Store → Rs D) : Sp := fun vs H Q E => modSp K m vs H Q E ∨ ∃ (A : List Addr) (M : Addr → Prop) (μ : Store) (ds : List D) (c : String) (ns : List String) (xs : List D) (μ' : Store), Ok K A M μ H ∧ RepL K A M H vs ds ∧ m ds μ = .rz c ns xs μ' ∧
  ∀ H' A' cls od, Fut A H A' H' → Ok K A' M μ' H' → RepX K A' M H' c ns xs cls od → E cls od H'
theorem passX0 {X : Cx} : ∀ σ : L2.St, PassesAt (L2.CX X.prog X.w) X σ E0 := fun _ _ _ _ _ _ _ h => by
  obtain ⟨_, _, _, _, _, _, _, _, _, _, _, _, hE⟩ := h
  exact hE.elim
section
variable {K : PySem.W.Frag} {A A' : List Addr} {M : Addr → Prop} {μ μ' : Store} {H H' : Hp} {v w : V} {d : D} {xs ds : List D} {k : Nat} {te ta tb : TE} {m ma mb : Mo D} {tas tks : TA} {mas mks : Mo (List D)} {W : WX} {Wo : Option WX} {c : String} {ct : CTab} {t1 : TS} {s1 : MS}
theorem RepX.low {B : List Addr} {c : String} {ns : List String} {xs : List D} {cls : Value} {od : Option Addr} (q : undL A.length xs = true) (h : RepX K (A ++ B) M H c ns xs cls od) : RepX K A M H c ns xs cls od := by
  obtain ⟨e, vs, h1, h2, h3, h4⟩ := h
  exact ⟨e, vs, fun q z => ⟨(h1 q z).1, fun y => (h1 q z).2 (y.imp (fun z => List.mem_append_left _ z) id)⟩, h2, h3, RepL.low q h4⟩
/-! ### statements -/
def sRetX (m : Mo D) : MS := fun env μ => match m env μ with
  | .ok d μ' => .rt d μ'
  | .rz c ns xs μ' => .rz c ns xs env μ'
  | .no => .no
theorem x_raise {W : WX} {A : List Addr} {M : Addr → Prop} {μ μ' : Store} {H : Hp} {σ : L2.St} {env : En} {c : String} {ns : List String} {xs : List D} (h : EvZ K W te m) (ok : Ok K A M μ H) (en : EnvRep K A M H σ env) (e : m env μ = .rz c ns xs μ') (p : PostR K (some W) A M H c ns xs env μ') (Q : VK) : te σ H Q :=
  h A M μ H σ env c ns xs μ' ok en e (fun H' A' cls od f' ok' rx => p σ H' A' cls od f' ok' (en.go f'.go) rx) Q
theorem t_retX (h : EvX K W te m) : StD K (some W) (tRet te) (sRetX m) := fun A M μ H σ env E ok en p => by
  unfold sRetX at p
  cases e : m env μ with
  | ok d μ' => rw [e] at p; exact h.ok A M μ H σ env d μ' ok en e _ p
  | no => rw [e] at p; exact p.elim
  | rz c ns xs μ' => rw [e] at p; exact x_raise h.rz ok en e p _
def sDropX (m : Mo D) : MS := fun env μ => match m env μ with
  | .ok _ μ' => .nx env μ'
  | .rz c ns xs μ' => .rz c ns xs env μ'
  | .no => .no
theorem t_dropX (h : EvX K W te m) : StD K (some W) (tDrop te) (sDropX m) := fun A M μ H σ env E ok en p => by
  unfold sDropX at p
  cases e : m env μ with
  | ok d μ' => rw [e] at p; exact h.ok A M μ H σ env d μ' ok en e _ fun v H1 A1 f1 ok1 _ => p σ H1 A1 f1 ok1 (en.go f1.go)
  | no => rw [e] at p; exact p.elim
  | rz c ns xs μ' => rw [e] at p; exact x_raise h.rz ok en e p _
def sAsgX (m : Mo D) (t : Tg) : MS := fun env μ => match m env μ with
  | .ok d μ' => (match t d env with
    | some env' => .nx env' μ'
    | none => .no)
  | .rz c ns xs μ' => .rz c ns xs env μ'
  | .no => .no
theorem t_asgX {g : TG} {js : List Nat} {t : Tg} (h : EvX K W te m) (hg : GD K g js t) : StD K (some W) (tAsg te g) (sAsgX m t) := fun A M μ H σ env E ok en p => by
  unfold sAsgX at p
  cases e : m env μ with
  | ok d μ' =>
    rw [e] at p
    dsimp only at p
    refine h.ok A M μ H σ env d μ' ok en e _ fun v H1 A1 f1 ok1 r1 => ?_
    cases e2 : t d env with
    | some env' =>
      rw [e2] at p
      obtain ⟨σ', en', _, q⟩ := hg A1 M H1 v d σ env env' (en.go f1.go) r1 e2
      exact q _ (p σ' H1 A1 f1 ok1 en')
    | none => rw [e2] at p; exact p.elim
  | no => rw [e] at p; exact p.elim
  | rz c ns xs μ' => rw [e] at p; exact x_raise h.rz ok en e p _
/-- raise C(..) -/
def sRaise (c : String) (fs : List String) (m : Mo (List D)) : MS := fun env μ => match m env μ with
  | .ok ds μ' => if ds.length = fs.length then .rz c fs ds env μ' else .no
  | _ => .no
theorem t_raise {fs : List String} (h : EvS K tas mas) : StD K (some W) (fun _ σ H => tMkErr (He.ga K c) (nmS fs) tas σ H fun cls d H' => W cls d σ H') (sRaise c fs mas) := fun A M μ H σ env E ok en p => by
  unfold sRaise at p
  cases e : mas env μ with
  | ok ds μ' =>
    rw [e] at p
    dsimp only at p
    split at p
    · rename_i hl
      refine h A M μ H σ env ds μ' ok en e _ fun vs H1 A1 f1 ok1 r1 => ?_
      have hlv : vs.length = fs.length := r1.len.trans hl
      refine ⟨hlv.trans (by unfold nmS; rw [List.length_map]), fun hfs => ?_, fun hfs d hd => ?_⟩
      · have h0 : fs = [] := by cases fs with | nil => rfl | cons => cases hfs
        exact p σ H1 A1 _ none f1 ok1 (en.go f1.go) ⟨rfl, vs, fun q z => (nomatch z), fun _ => h0, hlv.symm, r1⟩
      · have fd : Fut A1 H1 A1 (upd H1 d (.xd ((nmS fs).zip vs))) := .newO hd
        exact p σ _ A1 _ (some d) (f1.trans fd) (ok1.new hd) (en.go (f1.trans fd).go) ⟨rfl, vs, fun q z => by cases z; exact ⟨upd_same, ok1.fresh hd⟩, fun z => (nomatch z), hlv.symm, RepL.go fd.go r1⟩
    · exact p.elim
  | no => rw [e] at p; exact p.elim
  | rz => rw [e] at p; exact p.elim
def subE (ec : List (String × List String)) (c' c : String) : Bool := match ec.lookup c' with
  | some l => l.contains c
  | none => false
/-- try: .. except c as n: .. -/
def sTryAs (ec : List (String × List String)) (c : String) (i : Nat) (body suite : MS) : MS := fun env μ => match body env μ with
  | .rz c' ns xs env1 μ1 => if subE ec c' c = true then (match suite (env1.set i (some (.err c' ns xs))) μ1 with
    | .nx e m => .nx (e.set i none) m
    | .rt d m => .rt d m
    | .bk e m => .bk (e.set i none) m
    | .ct e m => .ct (e.set i none) m
    | _ => .no) else .no
  | r => r
/-- the classes of errors, as plain data -/
structure EcOk (K : PySem.W.Frag) (ec : List (String × List String)) : Prop where
  sub : ∀ p ∈ ec, ∀ c ∈ p.2, PySem.W.exmOne K (.ref (He.ga K p.1)) (.ref (He.ga K c)) = some true
theorem lookup_mem' {α : Type} {l : List (String × α)} {x : String} {y : α} (h : l.lookup x = some y) : (x, y) ∈ l := by
  induction l with
  | nil => cases h
  | cons p l ih =>
    obtain ⟨a, b⟩ := p
    rw [List.lookup_cons] at h
    by_cases z : x = a
    · subst z
      rw [beq_self_eq_true] at h
      cases h
      exact List.mem_cons_self
    · rw [show (x == a) = false from beq_eq_false_iff_ne.mpr z] at h
      exact List.mem_cons_of_mem _ (ih h)
theorem EnvRep.unset {A : List Addr} {M : Addr → Prop} {H : Hp} {σ : L2.St} {env : En} (h : EnvRep K A M H σ env) (i : Nat) : EnvRep K A M H (σ.set i none) (env.set i none) := paired_set (F := RepO K A M H) (x := none) (y := none) trivial i h
theorem t_tryAs {ec : List (String × List String)} {i : Nat} {tb : WX → TS} {ts : TS} {body suite : MS} (G : EcOk K ec) (hb : ∀ W', StD K (some W') (tb W') body) (hs : StD K none ts suite) : StD K Wo (fun D σ H => tb (wAsK K (.ref (He.ga K c)) i ts D) D σ H) (sTryAs ec c i body suite) := fun A M μ H σ env E ok en p => by
  refine hb _ A M μ H σ env E ok en ?_
  unfold sTryAs at p
  cases e : body env μ with
  | nx e1 m => rw [e] at p; exact p
  | rt d m => rw [e] at p; exact p
  | bk e1 m => rw [e] at p; exact p
  | ct e1 m => rw [e] at p; exact p
  | no => rw [e] at p; exact p
  | rz c' ns xs env1 μ1 =>
    rw [e] at p
    dsimp only at p
    intro σ1 H1 A1 cls od f1 ok1 en1 rx
    split at p
    · rename_i hc
      obtain ⟨rfl, vs, r1, r2, r3, r4⟩ := rx
      unfold subE at hc
      split at hc
      · rename_i l hl
        refine ⟨G.sub (c', l) (lookup_mem' hl) c (by simpa using hc), fun a ha => ?_⟩
        have fa : Fut A1 H1 A1 (upd H1 a (ErO a (.ref (He.ga K c')) od)) := .newO ha
        have ra : RepD K A1 M (upd H1 a (ErO a (.ref (He.ga K c')) od)) (.ref a) (.err c' ns xs) := by
          refine ⟨a, od, vs, rfl, ⟨upd_same, ok1.fresh ha⟩, fun q z => ⟨?_, (r1 q z).2⟩, r2, r3, RepL.go fa.go r4⟩
          have ne : q ≠ a := fun y => by
            have := (r1 q z).1
            rw [y, ha] at this
            cases this
          rw [upd_ne ne]
          exact (r1 q z).1
        refine hs A1 M μ1 _ _ _ _ (ok1.new ha) ((en1.go fa.go).set i ra) ?_
        cases e2 : suite (env1.set i (some (.err c' ns xs))) μ1 with
        | nx e3 m => rw [e2] at p; exact fun σ5 H5 A5 f5 ok5 en5 => p _ H5 A5 (f1.trans (fa.trans f5)) ok5 (en5.unset i)
        | rt d m => rw [e2] at p; exact fun v H5 A5 f5 ok5 r5 => p v H5 A5 (f1.trans (fa.trans f5)) ok5 r5
        | bk e3 m => rw [e2] at p; exact fun σ5 H5 A5 f5 ok5 en5 => p _ H5 A5 (f1.trans (fa.trans f5)) ok5 (en5.unset i)
        | ct e3 m => rw [e2] at p; exact fun σ5 H5 A5 f5 ok5 en5 => p _ H5 A5 (f1.trans (fa.trans f5)) ok5 (en5.unset i)
        | no => rw [e2] at p; exact p.elim
        | rz => rw [e2] at p; exact p.elim
      · cases hc
    · exact p.elim
/-! ### e.f, e an error -/
structure ErrOk (K : PySem.W.Frag) (ec : List (String × List String)) (fs : List String) : Prop where
  cls : ∀ p ∈ ec, XcC K (He.ga K p.1)
  no : ∀ p ∈ ec, ∀ f ∈ fs, PySem.W.findIn K (.ref (He.ga K p.1)) (f : Str) = some none
def mXfld (ec : List (String × List String)) (fs : List String) (f : String) (o : Mo D) : Mo D := fun env μ => (o env μ).bind fun x μ1 => match x with
  | .err c ns ds => if (ec.lookup c).isSome = true ∧ fs.contains f = true then Rs.of (getF f ns ds) μ1 else .no
  | _ => .no
theorem d_xfld {ec : List (String × List String)} {fs : List String} {f : String} (G : ErrOk K ec fs) (h : EvD K ta ma) : EvD K (tXfld K ta (f : Str)) (mXfld ec fs f ma) := fun A M μ H σ env d μ' ok en e Q q => by
  obtain ⟨x, μ1, e1, e2⟩ := Rs.bind_ok e
  split at e2
  · rename_i c ns ds
    split at e2
    · rename_i hn
      obtain ⟨e3, rfl⟩ := Rs.of_ok e2
      refine h A M μ H σ env _ _ ok en e1 _ fun v H1 A1 f1 ok1 r1 => ?_
      obtain ⟨a, od, vs, rfl, h1, hq, l0, hl, r2⟩ := r1
      obtain ⟨u, h3, h4⟩ := getF_rep r2 e3
      obtain ⟨l, hc⟩ := Option.isSome_iff_exists.mp hn.1
      have hm := lookup_mem' hc
      cases od with
      | none =>
        rw [l0 rfl] at h3
        cases h3
      | some dd => exact ⟨a, _, dd, _, u, rfl, h1.1, G.cls _ hm, G.no _ hm f (by simpa using hn.2), (hq dd rfl).1, h3, q u H1 A1 f1 ok1 h4⟩
    · cases e2
  · cases e2
/-! ### calls of defs that raise -/
theorem modSp.toX {f : List D → Store → Rs D} {vs : List V} {H : Hp} {Q : VK} {E : XK} (h : modSp K f vs H Q E) : modSpX K f vs H Q E := .inl h
/-- C(..) -/
def mMakeX (live : Bool) (c : String) (init : List D → Store → Rs D) (n mm : Nat) (js : List Nat) (dd : List D) (fm : Mo D) (a k : Mo (List D)) : Mo D := fun env μ => (fm env μ).nr.bind fun x μ0 => match x with
  | .cls c' => if c' = c then (a env μ0).nr.bind fun ds μ1 => (k env μ1).nr.bind fun es μ2 => if ds.length = n ∧ es.length = mm then (match init (perm js ((.ref μ2.length :: ds) ++ dd ++ es)) (μ2 ++ [.obj c [] []]) with
    | .ok .non μ3 => if live = true then .ok (.ref μ2.length) μ3 else (match μ3[μ2.length]? with
      | some cell => .ok (frzC cell) (μ3.take μ2.length)
      | none => .no)
    | .rz e ns xs μ3 => if undL μ2.length xs = true then .rz e ns xs (μ3.take μ2.length) else .no
    | _ => .no) else .no else .no
  | _ => .no
theorem mMakeX_ok {live : Bool} {init : List D → Store → Rs D} {n mm : Nat} {js : List Nat} {dd : List D} {mf : Mo D} {env : En} (e : mMakeX live c init n mm js dd mf mas mks env μ = .ok d μ') : mMakeP live c init n mm js dd mf mas mks env μ = .ok d μ' := by
  obtain ⟨x, μ0, e1, e⟩ := Rs.bind_ok e
  unfold mMakeP
  rw [Rs.nr_ok e1]
  rw [Rs.bind_k]
  split at e
  · rename_i c'
    try dsimp only
    split at e
    · rename_i hc
      rw [if_pos hc]
      obtain ⟨ds, μ1, e2, e⟩ := Rs.bind_ok e
      obtain ⟨es, μ2, e3, e⟩ := Rs.bind_ok e
      rw [Rs.nr_ok e2, Rs.bind_k, Rs.nr_ok e3, Rs.bind_k]
      split at e
      · rename_i hn
        rw [if_pos hn]
        split at e
        · rename_i μ3 ei
          rw [ei]
          exact e
        · split at e <;> cases e
        · cases e
      · cases e
    · cases e
  · cases e
theorem d_makeX {live : Bool} {init : List D → Store → Rs D} {n mm : Nat} {js : List Nat} {dd : List D} {dvs : List V} {tf : TE} {mf : Mo D} {E : L2.St → XK} (hd : ∀ A M H, RepL K A M H dvs dd) (h0 : EvD K tf mf) (h : EvS K tas mas) (hk : EvS K tks mks) :
    EvD K (tMakeP (He.ga K c) n mm (modSpX K init) js dvs E tf tas tks) (mMakeX live c init n mm js dd mf mas mks) := fun A M μ H σ env d μ' ok en e Q q =>
  d_makePs (fun _ _ _ _ h => .inl h) hd h0 h hk A M μ H σ env d μ' ok en (mMakeX_ok e) Q q
theorem z_makeX {live : Bool} {init : List D → Store → Rs D} {n mm : Nat} {js : List Nat} {dd : List D} {dvs : List V} {tf : TE} {mf : Mo D} (hd : ∀ A M H, RepL K A M H dvs dd) (h0 : EvD K tf mf) (h : EvS K tas mas) (hk : EvS K tks mks) :
    EvZ K W (tMakeP (He.ga K c) n mm (modSpX K init) js dvs (WE W) tf tas tks) (mMakeX live c init n mm js dd mf mas mks) := fun A M μ H σ env c2 ns xs μ' ok en e q Q => by
  obtain ⟨x, μ0, e1, e⟩ := Rs.nr_bind_rz e
  split at e
  · rename_i c'
    split at e
    · rename_i hc
      subst hc
      obtain ⟨ds, μ1, e2, e⟩ := Rs.nr_bind_rz e
      obtain ⟨es, μ2, e3, e⟩ := Rs.nr_bind_rz e
      split at e
      · rename_i hn
        refine h0 A M μ H σ env _ μ0 ok en e1 _ fun v H0 A0 f0 ok0 r0 => ⟨r0, ?_⟩
        refine h A0 M μ0 H0 σ env ds μ1 ok0 (en.go f0.go) e2 _ fun vs H1 A1 f1 ok1 r1 => hk A1 M μ1 H1 σ env es μ2 ok1 (en.go (f0.trans f1).go) e3 _ fun zs H2 A2 f2 ok2 r2 => ⟨by rw [r1.len]; exact hn.1, by rw [r2.len]; exact hn.2, fun y dy hy hdy hne => .inr ?_⟩
        have ok3 := ok2.new (o := .own y) hdy
        have fd : Fut A2 H2 A2 (upd H2 dy (.own y)) := .newO hdy
        have hy2 : upd H2 dy (.own y) y = none := by rw [upd_ne (fun z => hne z.symm)]; exact hy
        obtain ⟨ok4, f4⟩ := ok3.cellNew (x := dy) (vs := []) (c := .obj c' [] []) hy2 rfl rfl rfl
        have f24 := fd.trans f4
        have hlen : A2.length = μ2.length := ok2.len
        have rx : RepL K (A2 ++ [y]) M (upd (upd H2 dy (.own y)) y (.ins (He.ga K c') dy [])) (V.ref y :: vs) (.ref μ2.length :: ds) := ⟨_, _, rfl, ⟨y, rfl, by rw [← hlen]; simp⟩, RepL.go (f2.trans f24).go r1⟩
        split at e
        · split at e
          · cases e
          · split at e <;> cases e
        · rename_i e5 ns5 xs5 μ3 ei
          split at e
          · rename_i hu
            cases e
            refine ⟨A2 ++ [y], M, μ2 ++ [.obj c' [] []], _, _, _, _, _, ok4, ((rx.app (hd _ _ _)).app (RepL.go f24.go r2)).perm js, ei, fun H5 A5 cls od f5 ok5 rx5 => ?_⟩
            obtain ⟨B, rfl⟩ := f5.pre
            have fAll := ((f0.trans f1).trans f2).trans (f24.trans f5)
            have ok6 : Ok K (A2 ++ ([y] ++ B)) M μ3 H5 := by rw [← List.append_assoc]; exact ok5
            have rx6 : RepX K (A2 ++ ([y] ++ B)) M H5 c2 ns xs cls od := by rw [← List.append_assoc]; exact rx5
            have f02 := (f0.trans f1).trans f2
            exact q H5 A2 cls od ⟨f02.pre, f02.new, fun a o ha ho => fAll.pr a o ha ho⟩ (by rw [← hlen]; exact ok6.cellDrop) (RepX.low (by rw [hlen]; exact hu) rx6)
          · cases e
        · cases e
      · cases e
    · cases e
  · cases e
theorem x_makeX {live : Bool} {init : List D → Store → Rs D} {n mm : Nat} {js : List Nat} {dd : List D} {dvs : List V} {tf : TE} {mf : Mo D} (hd : ∀ A M H, RepL K A M H dvs dd) (h0 : EvD K tf mf) (h : EvS K tas mas) (hk : EvS K tks mks) :
    EvX K W (tMakeP (He.ga K c) n mm (modSpX K init) js dvs (WE W) tf tas tks) (mMakeX live c init n mm js dd mf mas mks) := ⟨d_makeX hd h0 h hk, z_makeX hd h0 h hk⟩
end
end My
namespace My
open PySem PySem.Spec PyProof.Rows L2
section
variable {K : PySem.W.Frag} {A A' : List Addr} {M : Addr → Prop} {μ μ' : Store} {H H' : Hp} {v w : V} {d : D} {xs ds : List D} {k : Nat} {te ta tb : TE} {m ma mb : Mo D} {tas tks : TA} {mas mks : Mo (List D)} {W : WX} {Wo : Option WX} {c : String} {ct : CTab} {t1 : TS} {s1 : MS}
/-! ### o.m(..), m raises -/
def mMethX (ct : CTab) (cs : List String) (nm : String) (n mm : Nat) (f : List D → Store → Rs D) (js : List Nat) (dd : List D) (o : Mo D) (a k : Mo (List D)) : Mo D := fun env μ => (o env μ).nr.bind fun x μ0 => match clsOf μ0 x with
  | some (c, ns, _) => if cs.contains c = true ∧ ct.names.contains c = true ∧ ns.contains nm = false then (a env μ0).nr.bind fun ds μ1 => (k env μ1).nr.bind fun es μ2 => if ds.length = n ∧ es.length = mm then f (perm js ((x :: ds) ++ dd ++ es)) μ2 else .no else .no
  | none => .no
theorem mMethX_ok {cs : List String} {nm : String} {n mm : Nat} {f : List D → Store → Rs D} {js : List Nat} {dd : List D} {env : En} (e : mMethX ct cs nm n mm f js dd ma mas mks env μ = .ok d μ') : mMethP ct cs nm n mm f js dd ma mas mks env μ = .ok d μ' := by
  obtain ⟨x, μ0, e1, e⟩ := Rs.bind_ok e
  unfold mMethP
  rw [Rs.nr_ok e1, Rs.bind_k]
  split at e
  · rename_i c ns _ hc
    try rw [hc]
    try dsimp only
    split at e
    · rename_i hcs
      rw [if_pos hcs]
      obtain ⟨ds, μ1, e2, e⟩ := Rs.bind_ok e
      obtain ⟨es, μ2, e3, e⟩ := Rs.bind_ok e
      rw [Rs.nr_ok e2, Rs.bind_k, Rs.nr_ok e3, Rs.bind_k]
      exact e
    · cases e
  · cases e
theorem x_methX {cs : List String} {nm : String} {a : Addr} {n mm : Nat} {f : List D → Store → Rs D} {js : List Nat} {dd : List D} {dvs : List V} (G : ClsOk K ct) (hm : ∀ c ∈ cs, Meth K (He.ga K c) (nm : Str) a) (hd : ∀ A M H, RepL K A M H dvs dd)
    (h0 : EvD K ta ma) (h : EvS K tas mas) (hk : EvS K tks mks) : EvX K W (tMethP K (nm : Str) a n mm (modSpX K f) js dvs (WE W) ta tas tks) (mMethX ct cs nm n mm f js dd ma mas mks) := by
  refine ⟨fun A M μ H σ env d μ' ok en e Q q => d_methPs (fun _ _ _ _ h => .inl h) G hm hd h0 h hk A M μ H σ env d μ' ok en (mMethX_ok e) Q q, fun A M μ H σ env c2 ns2 xs2 μ' ok en e q Q => ?_⟩
  obtain ⟨x, μ0, e0, e⟩ := Rs.nr_bind_rz e
  split at e
  · rename_i c ns _ hc
    split at e
    · rename_i hcs
      obtain ⟨ds, μ1, e1, e⟩ := Rs.nr_bind_rz e
      obtain ⟨es, μ2, e3, e⟩ := Rs.nr_bind_rz e
      split at e
      · rename_i hn
        refine h0 A M μ H σ env x μ0 ok en e0 _ fun v H0 A0 f0 ok0 r0 => ?_
        obtain ⟨b, y, us, rfl, hb, hl, _⟩ := clsOf_rep ok0 r0 hc
        refine ⟨b, _, y, _, rfl, hb, G.cls c (by simpa using hcs.2.1), hm c (by simpa using hcs.1), noF_rep hcs.2.2, ?_⟩
        refine h A0 M μ0 H0 σ env ds μ1 ok0 (en.go f0.go) e1 _ fun vs H1 A1 f1 ok1 r1 => hk A1 M μ1 H1 σ env es μ2 ok1 (en.go (f0.trans f1).go) e3 _ fun zs H2 A2 f2 ok2 r2 => ⟨by rw [r1.len]; exact hn.1, by rw [r2.len]; exact hn.2, .inr ?_⟩
        have rx : RepL K A2 M H2 (V.ref b :: vs) (x :: ds) := ⟨_, _, rfl, RepD.go (f1.trans f2).go r0, RepL.go f2.go r1⟩
        exact ⟨A2, M, μ2, _, c2, ns2, xs2, μ', ok2, ((rx.app (hd _ _ _)).app r2).perm js, e, fun H3 A3 cls od f3 ok3 rx3 => q H3 A3 cls od (((f0.trans f1).trans f2).trans f3) ok3 rx3⟩
      · cases e
    · cases e
  · cases e
/-- .. where nothing raises -/
theorem d_methX {cs : List String} {nm : String} {a : Addr} {n mm : Nat} {f : List D → Store → Rs D} {js : List Nat} {dd : List D} {dvs : List V} {E : L2.St → XK} (G : ClsOk K ct) (hm : ∀ c ∈ cs, Meth K (He.ga K c) (nm : Str) a) (hd : ∀ A M H, RepL K A M H dvs dd)
    (h0 : EvD K ta ma) (h : EvS K tas mas) (hk : EvS K tks mks) : EvD K (tMethP K (nm : Str) a n mm (modSpX K f) js dvs E ta tas tks) (mMethP ct cs nm n mm f js dd ma mas mks) := d_methPs (fun _ _ _ _ h => .inl h) G hm hd h0 h hk
theorem d_makeY {live : Bool} {init : List D → Store → Rs D} {n mm : Nat} {js : List Nat} {dd : List D} {dvs : List V} {tf : TE} {mf : Mo D} {E : L2.St → XK} (hd : ∀ A M H, RepL K A M H dvs dd) (h0 : EvD K tf mf) (h : EvS K tas mas) (hk : EvS K tks mks) :
    EvD K (tMakeP (He.ga K c) n mm (modSpX K init) js dvs E tf tas tks) (mMakeP live c init n mm js dd mf mas mks) := d_makePs (fun _ _ _ _ h => .inl h) hd h0 h hk
/-! ### f(..), f of the module raises -/
def tCallX (sp : Sp) (E : L2.St → XK) (t : TA) : TE := fun σ H Q => t σ H fun vs H1 => sp vs H1 Q (E σ)
def mCallX (m : List D → Store → Rs D) (ma : Mo (List D)) : Mo D := fun env μ => (ma env μ).nr.bind fun ds μ1 => m ds μ1
theorem x_callX {f : List D → Store → Rs D} (h : EvS K tas mas) : EvX K W (tCallX (modSpX K f) (WE W) tas) (mCallX f mas) := by
  refine ⟨fun A M μ H σ env d μ' ok en e Q q => ?_, fun A M μ H σ env c2 ns2 xs2 μ' ok en e q Q => ?_⟩
  · obtain ⟨ds, μ1, e1, e⟩ := Rs.bind_ok e
    exact h A M μ H σ env ds μ1 ok en (Rs.nr_ok e1) _ fun vs H1 A1 f1 ok1 r1 => .inl ⟨A1, M, μ1, ds, d, μ', ok1, r1, e, fun v H2 A2 f2 ok2 r2 => q v H2 A2 (f1.trans f2) ok2 r2⟩
  · obtain ⟨ds, μ1, e1, e⟩ := Rs.nr_bind_rz e
    exact h A M μ H σ env ds μ1 ok en e1 _ fun vs H1 A1 f1 ok1 r1 => .inr ⟨A1, M, μ1, ds, c2, ns2, xs2, μ', ok1, r1, e, fun H2 A2 cls od f2 ok2 r2 => q H2 A2 cls od (f1.trans f2) ok2 r2⟩
theorem d_callX {f : List D → Store → Rs D} {E : L2.St → XK} (h : EvS K tas mas) : EvD K (tCallX (modSpX K f) E tas) (mCall f mas) := fun A M μ H σ env d μ' ok en e Q q => by
  obtain ⟨ds, μ1, e1, e⟩ := Rs.bind_ok e
  exact h A M μ H σ env ds μ1 ok en e1 _ fun vs H1 A1 f1 ok1 r1 => .inl ⟨A1, M, μ1, ds, d, μ', ok1, r1, e, fun v H2 A2 f2 ok2 r2 => q v H2 A2 (f1.trans f2) ok2 r2⟩
end
/-! ### defs that raise, by their model -/
def fnKX (np nl : Nat) (body : MS) : List D → Store → Rs D := fun ds μ => if ds.length = np then (match body (ds.map some ++ List.replicate nl none) μ with
  | .nx _ μ' => .ok .non μ'
  | .rt d μ' => .ok d μ'
  | .rz c ns xs _ μ' => .rz c ns xs μ'
  | _ => .no) else .no
section
variable {P : Program} {w : World} {K : PySem.W.Frag} {mg : Str → Option Value} {base : Heap}
theorem modSpX.len {f : List D → Store → Rs D} {n : Nat} (hf : ∀ ds μ, ds.length ≠ n → f ds μ = .no) {vs : List V} {H : Hp} {Q : VK} {E : XK} (h : modSpX K f vs H Q E) : vs.length = n := by
  rcases h with ⟨A, M, μ, ds, d, μ', ok, r, e, q⟩ | ⟨A, M, μ, ds, c, ns, xs, μ', ok, r, e, q⟩
  · rw [r.len]
    by_cases hn : ds.length = n
    · exact hn
    · rw [hf ds μ hn] at e; cases e
  · rw [r.len]
    by_cases hn : ds.length = n
    · exact hn
    · rw [hf ds μ hn] at e; cases e
theorem fnKX_len {np nl : Nat} {body : MS} : ∀ ds μ, ds.length ≠ np → fnKX np nl body ds μ = .no := fun ds μ h => if_neg h
theorem run_KX {np nl : Nat} {N : List Str} {body : MS} {t : TS} {E : XK} {vs : List V} {H : Hp} {Q : VK} (hN : N.length = np + nl) (h : modSpX K (fnKX np nl body) vs H Q E) (hb : StD K (some fun cls d _ H => E cls d H) t body) : t { nx := fun _ H' => Q .non H', rt := Q } (start N vs) H := by
  rcases h with ⟨A0, M, μ, ds, d, μ', ok, r, e, q⟩ | ⟨A0, M, μ, ds, c, ns, xs, μ', ok, r, e, q⟩
  · unfold fnKX at e
    split at e
    · rename_i hl
      refine hb A0 M μ H _ _ _ ok (env_start r (by rw [hl]; exact hN)) ?_
      split at e
      · rename_i en2 μ2 eb
        cases e
        rw [eb]
        exact fun σ' H' A' f' ok' _ => q .non H' A' f' ok' rfl
      · rename_i d2 μ2 eb
        cases e
        rw [eb]
        exact fun v H' A' f' ok' r' => q v H' A' f' ok' r'
      · cases e
      · cases e
    · cases e
  · unfold fnKX at e
    split at e
    · rename_i hl
      refine hb A0 M μ H _ _ _ ok (env_start r (by rw [hl]; exact hN)) ?_
      split at e
      · cases e
      · cases e
      · rename_i c2 ns2 xs2 en2 μ2 eb
        cases e
        rw [eb]
        exact fun σ' H' A' cls od f' ok' _ rx => q H' A' cls od f' ok' rx
      · cases e
    · cases e
theorem calF_KX {a : Addr} {x q : Str} {st : Stmt} {dvs : List V} {kvs : List (Str × V)} {N ps : List Str} {k nl : Nat} {body : MS} (F : DfA K a x q st dvs kvs) (S : FnScope N ps (defScope st)) (hN : N.length = ps.length + nl)
    (hb : ∀ (cdv : Value) (A : Around) (outer : List Env) (s : Shared) (H : Hp) (E : XK), Room k (A.deeper (envOfC q (defScope st) s.heap.objs.size a cdv)) →
      ∃ t, PSs (cxOf (L2.CX P w) P w K mg base N q (defScope st) a cdv A outer s H E) (defBody st) t ∧ StD K (some fun cls d _ H => E cls d H) t body) : CalF P w K mg base (L2.CX P w) (k + 1) a x q st dvs kvs ps (modSpX K (fnKX ps.length nl body)) := by
  obtain ⟨fd, F⟩ := F.ex
  refine ⟨fd, F.ok S (fun vs H Q E h => h.len fnKX_len) fun cdv A outer s H vs Q E hr h => ?_, F⟩
  obtain ⟨t, h1, h2⟩ := hb cdv A outer s H E hr
  exact ⟨t, h1, run_KX hN h h2⟩
/-- a def of the module that may raise -/
structure CalX (P : Program) (w : World) (K : PySem.W.Frag) (mg : Str → Option Value) (base : Heap) (k : Nat) (x : Str) (ps : List Str) (sp : Sp) : Prop where
  ex : ∃ f fd, FnOk P w K mg base (L2.CX P w) k f fd ps sp ∧ mg x = some (.ref f) ∧ PySem.W.keepIn K (.ref f) = true ∧ Binds K fd ps []
theorem cal_KX {x : Str} {st : Stmt} {N ps : List Str} {k nl : Nat} {body : MS} (F : Df K mg x st) (S : FnScope N ps (defScope st)) (hN : N.length = ps.length + nl)
    (hbd : ∀ (kV doc pm : Value) (an : Option Addr) (cdv ct : Value) (us : List Value), us.length = ps.length → bindArgs (PySem.W.fnOf x x (defArgs st) (defBody st) (defScope st) .none kV doc pm an cdv ct) ⟨us, []⟩ = pure (ps.zip us))
    (hb : ∀ (f : Addr) (cdv : Value) (A : Around) (outer : List Env) (s : Shared) (H : Hp) (E : XK), Room k (A.deeper (envOfC x (defScope st) s.heap.objs.size f cdv)) →
      ∃ t, PSs (cxOf (L2.CX P w) P w K mg base N x (defScope st) f cdv A outer s H E) (defBody st) t ∧ StD K (some fun cls d _ H => E cls d H) t body) : CalX P w K mg base (k + 1) x ps (modSpX K (fnKX ps.length nl body)) := by
  obtain ⟨f, fd, F, hm⟩ := F.ex
  refine ⟨f, fd, F.ok S (fun vs H Q E h => h.len fnKX_len) fun cdv A outer s H vs Q E hr h => ?_, hm, F.kp, F.bindsN hbd⟩
  obtain ⟨t, h1, h2⟩ := hb f cdv A outer s H E hr
  exact ⟨t, h1, run_KX hN h h2⟩
end
theorem pe_callX {X : Cx} {k : Nat} {x : Str} {ps : List Str} {sp : Sp} {e : Expr} {es : List Expr} {t : TA} {p pos : Pos} {E : L2.St → XK} (C : CalX X.prog X.w X.K X.mg X.base k x ps sp) (hr : Room k X.A) (hg : Gl X x) (hx : ∀ σ, PassesAt (L2.CX X.prog X.w) X σ (E σ)) (ha : PA X (e :: es) t)
    (hdb : (x == ("__debug__" : Str)) = false := by decide) (he : starEach (e :: es) X.env = (false, eval e X.env) :: starEach es X.env := by rfl) (hpl : (backTo pos (starEach es X.env)).any (·.1) = false := by rfl) : PE X (.Call (.Name x p) (e :: es) [] pos) (tCallX sp E t) := by
  obtain ⟨f, fd, F, hm, hk, hb⟩ := C.ex
  exact pe_callS F hr hg hm hk hb hx ha hdb he hpl
end My
namespace My
open PySem PySem.Spec PyProof.Rows L2
/-! ### errors: what the head tells -/
theorem closB_ok {K : PySem.W.Frag} {C : Addr} {file : Str} {g : FuncData} (h : closB K C file g = true) : ∃ cc cda, g.closure = [(("__class__" : Str), cc)] ∧ g.code = .ref cda ∧ (∃ (cl : Value) (cld : Option Addr) (csl : Array (Option Value)), K.lookup cc = some ⟨cl, cld, .cell (some (.ref C)), csl⟩) ∧
    ∃ (ccl : Value) (cdd : Option Addr) (vs : Array Value) (ccs : Array (Option Value)) (tf : Tok), K.lookup cda = some ⟨ccl, cdd, .fields vs, ccs⟩ ∧ vs[2]? = some (.str file tf) := by
  unfold closB at h
  obtain ⟨h1, h2⟩ := He.ba h
  split at h1
  · rename_i n cc hc
    obtain ⟨h3, h4⟩ := He.ba h1
    split at h4
    · rename_i o1 o2 D o4 hl
      split at h2
      · rename_i cda hcd
        split at h2
        · rename_i p1 p2 vs p4 hl2
          unfold fileB at h2
          split at h2
          · rename_i f tf hf
            refine ⟨cc, cda, ?_, hcd, ⟨o1, o2, o4, ?_⟩, p1, p2, vs, p4, tf, hl2, ?_⟩
            · rw [hc, of_decide_eq_true h3]
            · rw [hl, of_decide_eq_true h4]
            · rw [← of_decide_eq_true h2]
              exact hf
          · cases h2
        · cases h2
      · cases h2
    · cases h4
  · cases h1
theorem DefP.errFn {K : PySem.W.Frag} {d : DefP} {Cf : PySem.W.Frag → Addr} {file : Str} (he : d.err = some (Cf, file)) (hn : d.name = "__init__") (hdf : d.dfl = []) (e : fnP K (d.pa K) d.err.isSome = d.val) (c : d.ok K = true) :
    ∃ cc cda, ErrFn K (Cf K) (d.pa K) file d.params d.body d.scope cc cda d.qual := by
  obtain ⟨kp, c2⟩ := He.ba c
  rw [he] at e
  unfold fnP at e
  cases q : K.lookup (d.pa K) with
  | none =>
    rw [q] at c2
    cases c2
  | some o =>
    obtain ⟨oc, od, dt, osl⟩ := o
    rw [q] at c2 e
    cases dt with
    | func g =>
      obtain ⟨k1, k2⟩ := He.ba (show (PySem.W.codeIn K g.code d.qual && _) = true from c2)
      obtain ⟨k2, k5⟩ := He.ba k2
      rw [he] at k5
      obtain ⟨k3, k4⟩ := He.ba k2
      obtain ⟨cc, cda, hcl, hcd, hcell, hcode⟩ := closB_ok (show closB K (Cf K) file g = true from k5)
      have hD := He.dflB_ok k3
      have hv : d.dvs K = [] := by unfold DefP.dvs; rw [hdf]; rfl
      obtain ⟨m1, m2, m3, m4, m5, m6, m7, m8, m9, m10, m11, m12, m13, m14, m15⟩ := g
      have e2 : (some (m1, m2, m3, m4, m5, m6, [], m15) : He.FnW) = d.val := e
      unfold DefP.val at e2
      simp only [Option.some.injEq, Prod.mk.injEq] at e2
      obtain ⟨h1, h2, h3, h4, h5, h6, _, h8⟩ := e2
      dsimp only at hcl hcd
      subst h1 h2 h3 h4 h5 h6 h8 hcl hcd
      have h8n : m8 = .none := by
        rcases hD with ⟨_, h⟩ | ⟨h, _⟩
        · exact h
        · exact absurd hv h
      subst h8n
      refine ⟨cc, cda, ⟨oc, od, m9, m10, m11, m12, m14, osl, ?_⟩, k1, hcode, hcell⟩
      rw [q, hn]
      all_goals rfl
    | _ => cases c2
def errKB (K : PySem.W.Frag) (C : Addr) (B newId initId : String) (tl : List Value) (fI : Addr) (fs : List Str) : Bool :=
  (PySem.W.excInitIn K C tl newId && (PySem.W.excOver K C tl && (PySem.W.hasDictIn K C && (decide (PySem.W.findIn K (.ref C) "__init__" = some (some (.ref fI))) && (PySem.W.isFn K (.ref fI) && (decide (PySem.W.ks_superIn K C C "__init__" = some (some (.builtin initId))) &&
  (decide (PySem.W.subIn K (.ref C) (.type B) = some true) && (decide (PySem.W.subIn K (.ref C) (.type "BaseException") = some true) && (decide (PySem.W.typeIn K (.ref C) = some (.type "type")) && PySem.W.keepIn K (.ref C)))))))))) &&
  (decide (PySem.W.findIn K (.ref C) "__setattr__" = some (some (.builtin "object.__setattr__"))) && (decide (PySem.W.findIn K (.ref C) "__getattribute__" = some (some (.builtin "BaseException.__getattribute__"))) && (decide (PySem.W.findIn K (.ref C) "__getattr__" = some none) &&
  (fs.all (fun f => decide (PySem.W.takerIn K C f = some none) && decide (PySem.W.findIn K (.ref C) f = some none)) && (decide (PySem.W.nsIn K cStatics "thirdparty.any" = some none) && decide (PySem.W.mroIn K C (.ref C) = some true))))))
theorem errKB_ok {K : PySem.W.Frag} {C : Addr} {B newId initId : String} {tl : List Value} {fI : Addr} {fs : List Str} (eb : EBase B newId initId tl) (h : errKB K C B newId initId tl fI fs = true) : ErrK K C B newId initId tl fI fs := by
  obtain ⟨h, g⟩ := He.ba h
  obtain ⟨h1, h⟩ := He.ba h
  obtain ⟨h2, h⟩ := He.ba h
  obtain ⟨h3, h⟩ := He.ba h
  obtain ⟨h4, h⟩ := He.ba h
  obtain ⟨h5, h⟩ := He.ba h
  obtain ⟨h6, h⟩ := He.ba h
  obtain ⟨h7, h⟩ := He.ba h
  obtain ⟨h8, h⟩ := He.ba h
  obtain ⟨h9, h10⟩ := He.ba h
  obtain ⟨g1, g⟩ := He.ba g
  obtain ⟨g2, g⟩ := He.ba g
  obtain ⟨g3, g⟩ := He.ba g
  obtain ⟨g4, g⟩ := He.ba g
  obtain ⟨g5, g6⟩ := He.ba g
  exact ⟨eb, h1, h2, h3, of_decide_eq_true h4, h5, of_decide_eq_true h6, of_decide_eq_true h7, of_decide_eq_true h8, of_decide_eq_true h9, h10, of_decide_eq_true g1, of_decide_eq_true g2, of_decide_eq_true g3,
    fun f hf => ⟨of_decide_eq_true (He.ba (List.all_eq_true.mp g4 f hf)).1, of_decide_eq_true (He.ba (List.all_eq_true.mp g4 f hf)).2⟩, of_decide_eq_true g5, of_decide_eq_true g6⟩
theorem errT_of {K : PySem.W.Frag} {d : DefP} {C : Addr} {Cf : PySem.W.Frag → Addr} {file : Str} {B newId initId : String} {tl : List Value} {fs : List Str} (eb : EBase B newId initId tl) (hk : errKB K (Cf K) B newId initId tl (d.pa K) fs = true) (hC : Cf K = C) (he : d.err = some (Cf, file)) (hn : d.name = "__init__") (hdf : d.dfl = [])
    (ho : fnP K (d.pa K) d.err.isSome = d.val ∧ d.ok K = true) (S : ErrSc fs d.scope) (hI : InitOk fs d.body) (hp : ∃ ar, (d.params.posonlyargs ++ d.params.args).head? = some ar ∧ ar.arg = "self")
    (hb : ∀ (cc cda : Addr) (s' : Shared) (self : Value) (us : List Value) (kV doc pm : Value) (an : Option Addr) (ct : Value), us.length = fs.length → BindsTo s' (PySem.W.ksFn "__init__" d.qual d.params d.body d.scope .none kV doc pm an (.ref cda) ct cc) ⟨self :: us, []⟩ (("self", self) :: fs.zip us))
    (nd : fs.Nodup) (ns : ("self" : Str) ∉ fs) (le : fs.length ≤ 2) : ErrT K C fs file := by
  subst hC
  obtain ⟨cc, cda, Fn⟩ := DefP.errFn he hn hdf ho.1 ho.2
  have T := errKB_ok eb hk
  exact ⟨⟨B, newId, initId, tl, d.pa K, cc, cda, d.qual, d.params, d.body, d.scope, T, Fn, S, hI, hp, hb cc cda⟩, nd, ns, le, T.kp, T.ex, T.ty⟩
def ecB (K : PySem.W.Frag) (ec : List (String × List String)) : Bool := ec.all fun p => p.2.all fun c => decide (PySem.W.exmOne K (.ref (He.ga K p.1)) (.ref (He.ga K c)) = some true)
theorem ecB_ok {K : PySem.W.Frag} {ec : List (String × List String)} (h : ecB K ec = true) : EcOk K ec := ⟨fun p hp c hc => of_decide_eq_true (List.all_eq_true.mp (List.all_eq_true.mp h p hp) c hc)⟩
def erB (K : PySem.W.Frag) (ec : List (String × List String)) (fs : List String) : Bool := ec.all fun p => decide (PySem.W.findIn K (.ref (He.ga K p.1)) "__getattribute__" = some (some (.builtin "BaseException.__getattribute__"))) && (decide (PySem.W.findIn K (.ref (He.ga K p.1)) "__getattr__" = some none) &&
  (decide (PySem.W.subIn K (.ref (He.ga K p.1)) (.type "BaseException") = some true) && (PySem.W.hasDictIn K (He.ga K p.1) && fs.all fun f => decide (PySem.W.findIn K (.ref (He.ga K p.1)) (f : Str) = some none))))
theorem erB_ok {K : PySem.W.Frag} {ec : List (String × List String)} {fs : List String} (h : erB K ec fs = true) : ErrOk K ec fs := by
  have key := fun p hp => He.ba (List.all_eq_true.mp h p hp)
  have k2 := fun p hp => He.ba (key p hp).2
  have k3 := fun p hp => He.ba (k2 p hp).2
  have k4 := fun p hp => He.ba (k3 p hp).2
  exact ⟨fun p hp => ⟨of_decide_eq_true (key p hp).1, of_decide_eq_true (k2 p hp).1, of_decide_eq_true (k3 p hp).1, (k4 p hp).1⟩, fun p hp f hf => of_decide_eq_true (List.all_eq_true.mp (k4 p hp).2 f hf)⟩
end My
namespace My
open PySem PySem.Spec PyProof.Rows L2
def topS (i : Nat) : Stmt := PySem.Challenge.pw_dirservice_k11_whole_reading.main.body.getD i (.Pass ⟨0, 0, 0, 0⟩)
def clsS (i j : Nat) : Stmt := match topS i with
  | .ClassDef (body := b) .. => b.getD j (.Pass ⟨0, 0, 0, 0⟩)
  | s => s
abbrev s_is_word : Stmt := topS 12
abbrev s_is_value : Stmt := topS 13
abbrev s_plain_text : Stmt := topS 14
abbrev s_is_plain : Stmt := topS 15
abbrev s_escaped : Stmt := topS 16
abbrev s_value_at : Stmt := topS 17
abbrev s_read_name : Stmt := topS 18
abbrev s_leaf_text : Stmt := topS 19
abbrev s_normal_leaf : Stmt := topS 20
abbrev s_name_text : Stmt := topS 21
abbrev s_order_of : Stmt := topS 22
abbrev s_l_source : Stmt := topS 28
abbrev s_l_next : Stmt := topS 29
abbrev s_l_pick : Stmt := topS 30
abbrev s_l_rounds : Stmt := topS 31
abbrev s_l_is_word : Stmt := topS 32
abbrev s_l_is_text : Stmt := topS 33
abbrev s_l_split : Stmt := topS 34
abbrev s_l_bare : Stmt := topS 35
abbrev s_l_leaf : Stmt := topS 36
abbrev s_l_name : Stmt := topS 37
abbrev s_l_low : Stmt := topS 38
abbrev s_l_escaped : Stmt := topS 39
abbrev s_l_leaf_line : Stmt := topS 40
abbrev s_l_low_leaf : Stmt := topS 41
abbrev s_l_line : Stmt := topS 42
abbrev s_l_low_line : Stmt := topS 43
abbrev s_l_drawn : Stmt := topS 44
abbrev s_l_read : Stmt := topS 45
abbrev s_l_pairs_told : Stmt := topS 46
abbrev s_l_one_right : Stmt := topS 47
abbrev s_law : Stmt := topS 48
abbrev s_Name___init : Stmt := clsS 25 0
abbrev s_Name_text : Stmt := clsS 25 2
abbrev s_Name_normal : Stmt := clsS 25 3
abbrev s_Name_parent : Stmt := clsS 25 5
abbrev s_Name_pairs : Stmt := clsS 25 6
abbrev s_Name_depth : Stmt := clsS 25 7
abbrev s_Name___eq : Stmt := clsS 25 12
def ctab : CTab := ⟨["Name"], [("Name", ["Name"])], ["own_text", "own_leaves", "own_order"]⟩
def fileS : Str := "/claim/cut.py"
def ecs : List (String × List String) := [("BadName", ["BadName"])]
def efs : List String := ["given"]
abbrev s_BadName___init : Stmt := clsS 3 0
structure Tx (K : PySem.W.Frag) (mg : Str → Option Value) : Prop where
  d_is_word : Df K mg "is_word" s_is_word
  d_is_value : Df K mg "is_value" s_is_value
  d_plain_text : Df K mg "plain_text" s_plain_text
  d_is_plain : Df K mg "is_plain" s_is_plain
  d_escaped : Df K mg "escaped" s_escaped
  d_value_at : Df K mg "value_at" s_value_at
  d_read_name : Df K mg "read_name" s_read_name
  d_leaf_text : Df K mg "leaf_text" s_leaf_text
  d_normal_leaf : Df K mg "normal_leaf" s_normal_leaf
  d_name_text : Df K mg "name_text" s_name_text
  d_order_of : Df K mg "order_of" s_order_of
  d_l_source : Df K mg "_law_source" s_l_source
  d_l_next : Df K mg "_law_next" s_l_next
  d_l_pick : Df K mg "_law_pick" s_l_pick
  d_l_rounds : Df K mg "_law_rounds" s_l_rounds
  d_l_is_word : Df K mg "_law_is_word" s_l_is_word
  d_l_is_text : Df K mg "_law_is_text" s_l_is_text
  d_l_split : Df K mg "_law_split" s_l_split
  d_l_bare : Df K mg "_law_bare" s_l_bare
  d_l_leaf : Df K mg "_law_leaf" s_l_leaf
  d_l_name : Df K mg "_law_name" s_l_name
  d_l_low : Df K mg "_law_low" s_l_low
  d_l_escaped : Df K mg "_law_escaped" s_l_escaped
  d_l_leaf_line : Df K mg "_law_leaf_line" s_l_leaf_line
  d_l_low_leaf : Df K mg "_law_low_leaf" s_l_low_leaf
  d_l_line : Df K mg "_law_line" s_l_line
  d_l_low_line : Df K mg "_law_low_line" s_l_low_line
  d_l_drawn : Df K mg "_law_drawn" s_l_drawn
  d_l_read : Df K mg "_law_read" s_l_read
  d_l_pairs_told : Df K mg "_law_pairs_told" s_l_pairs_told
  d_l_one_right : Df K mg "_law_one_right" s_l_one_right
  d_law : Df K mg "law" s_law
  d_Name___init : DfA K (He.ma K (He.ga K "Name") "__init__") "__init__" "Name.__init__" s_Name___init [V.str ""] []
  d_Name_text : DfA K (gp K "Name" "text") "text" "Name.text" s_Name_text [] []
  d_Name_normal : DfA K (gp K "Name" "normal") "normal" "Name.normal" s_Name_normal [] []
  d_Name_parent : DfA K (gp K "Name" "parent") "parent" "Name.parent" s_Name_parent [] []
  d_Name_pairs : DfA K (gp K "Name" "pairs") "pairs" "Name.pairs" s_Name_pairs [] []
  d_Name_depth : DfA K (gp K "Name" "depth") "depth" "Name.depth" s_Name_depth [] []
  d_Name___eq : DfA K (He.ma K (He.ga K "Name") "__eq__") "__eq__" "Name.__eq__" s_Name___eq [] []
  G : ClsOk K ctab
  k_BadName : mg "BadName" = some (.ref (He.ga K "BadName"))
  k_Name : mg "Name" = some (.ref (He.ga K "Name"))
  mk_Name : Mk K (He.ga K "Name") (He.ma K (He.ga K "Name") "__init__")
  p_Name_depth : ∀ c ∈ ["Name"], ∃ p, PropOf K (He.ga K c) "depth" p (gp K "Name" "depth")
  p_Name_normal : ∀ c ∈ ["Name"], ∃ p, PropOf K (He.ga K c) "normal" p (gp K "Name" "normal")
  p_Name_pairs : ∀ c ∈ ["Name"], ∃ p, PropOf K (He.ga K c) "pairs" p (gp K "Name" "pairs")
  p_Name_parent : ∀ c ∈ ["Name"], ∃ p, PropOf K (He.ga K c) "parent" p (gp K "Name" "parent")
  p_Name_text : ∀ c ∈ ["Name"], ∃ p, PropOf K (He.ga K c) "text" p (gp K "Name" "text")
  er_BadName : ErrT K (He.ga K "BadName") (nmS ["given"]) fileS
  Ec : EcOk K ecs
  Er : ErrOk K ecs efs
  mt_Name___eq : ∀ c ∈ ["Name"], Meth K (He.ga K c) "__eq__" (He.ma K (He.ga K "Name") "__eq__")
  b_len : mg "len" = none
  b_isinstance : mg "isinstance" = none
  b_str : mg "str" = none
  b_all : mg "all" = none
  b_enumerate : mg "enumerate" = none
  b_tuple : mg "tuple" = none
  b_sorted : mg "sorted" = none
  b_int : mg "int" = none
  b_sum : mg "sum" = none
  b_list : mg "list" = none
  b_range : mg "range" = none
  b_super : mg "super" = none
  g_MAX_WORD : ∃ t, mg "MAX_WORD" = some (.int 12 t)
  g_LETTERS : ∃ t, mg "LETTERS" = some (.str "abcdefghijklmnopqrstuvwxyz" t)
  g_MAX_TEXT : ∃ t, mg "MAX_TEXT" = some (.int 60 t)
  g_ESCAPED : ∃ t, mg "ESCAPED" = some (.str ",+=\\" t)
  g_BACKSLASH : ∃ t, mg "BACKSLASH" = some (.str "\\" t)
  g_MAX_PAIRS : ∃ t, mg "MAX_PAIRS" = some (.int 4 t)
  g_MAX_LEAVES : ∃ t, mg "MAX_LEAVES" = some (.int 12 t)
end My
namespace My
open PySem PySem.Spec PyProof.Rows L2
-- plain
/-! plain texts: small letters, words with one space between -/
def asc (l : Codes) : Prop := l.all (· < 128) = true
def lowL (l : Codes) : Codes := l.map PyProof.Rows.lo1
def wds (l : Codes) : List Codes := (TL.spl [32] 0 [] l).filter fun x => !decide (x = [])
def plainL (l : Codes) : Codes := TL.joinL [32] (wds (lowL l))
/-- the words, the rest acc ahead -/
def wdA (acc l : Codes) : List Codes := (TL.spl [32] 0 acc l).filter fun x => !decide (x = [])
def ne1 (acc : Codes) : List Codes := if acc = [] then [] else [acc]
theorem wdA_nil (acc : Codes) : wdA acc [] = ne1 acc := by
  unfold wdA ne1
  rw [TL.spl_nil]
  by_cases h : acc = []
  · rw [if_pos h, h]; rfl
  · rw [if_neg h, List.filter_cons, if_pos (by rw [decide_eq_false h]; rfl)]; rfl
theorem wdA_sp (acc r : Codes) : wdA acc (32 :: r) = ne1 acc ++ wdA [] r := by
  unfold wdA ne1
  rw [TL.spl_hit (by rfl)]
  show (acc :: TL.spl [32] 0 [] r).filter _ = _
  by_cases h : acc = []
  · rw [if_pos h, h]; rfl
  · rw [if_neg h, List.filter_cons, if_pos (by rw [decide_eq_false h]; rfl)]; rfl
theorem wdA_ch {c : Nat} (acc r : Codes) (h : c ≠ 32) : wdA acc (c :: r) = wdA (acc ++ [c]) r := by
  unfold wdA
  rw [TL.spl_miss (TL.pre_of_head _ _ h)]
theorem joinL_cons2 (s x y : Codes) (r : List Codes) : TL.joinL s (x :: y :: r) = x ++ s ++ TL.joinL s (y :: r) := by
  first
    | rfl
    | simp [TL.joinL]
theorem joinL_one (s x : Codes) : TL.joinL s [x] = x := by
  first
    | rfl
    | simp [TL.joinL]
theorem joinL_nil (s : Codes) : TL.joinL s [] = [] := by
  first
    | rfl
    | simp [TL.joinL]
theorem joinL_snoc (s y : Codes) : ∀ (ws : List Codes), ws ≠ [] → TL.joinL s (ws ++ [y]) = TL.joinL s ws ++ s ++ y
  | [], h => absurd rfl h
  | [x], _ => by
    show TL.joinL s (x :: y :: []) = _
    rw [joinL_cons2, joinL_one, joinL_one]
  | x :: z :: r, _ => by
    show TL.joinL s (x :: z :: (r ++ [y])) = _
    have ih := joinL_snoc s y (z :: r) (List.cons_ne_nil _ _)
    rw [joinL_cons2, joinL_cons2]
    rw [show z :: (r ++ [y]) = (z :: r) ++ [y] from rfl, ih]
    simp only [List.append_assoc]
/-- the law's own way: sign by sign -/
def lowStep (f : Codes) (d : Nat) : Codes := if d ≠ 32 ∨ (f ≠ [] ∧ f.getLast? ≠ some 32) then f ++ [d] else f
def lowEnd (f : Codes) : Codes := if f.getLast? = some 32 then f.dropLast else f
/-- the text so far, by its words -/
def rep (ws : List Codes) (acc : Codes) : Codes := if acc = [] then (if ws = [] then [] else TL.joinL [32] ws ++ [32]) else TL.joinL [32] (ws ++ [acc])
theorem rep_last {ws : List Codes} {acc : Codes} (h : acc ≠ []) : ∃ p, rep ws acc = p ++ acc := by
  unfold rep
  rw [if_neg h]
  by_cases hw : ws = []
  · rw [hw]
    exact ⟨[], by rw [List.nil_append, joinL_one]; rfl⟩
  · rw [joinL_snoc _ _ _ hw]
    exact ⟨_, rfl⟩
theorem getLast_app {p a : Codes} (h : a ≠ []) : (p ++ a).getLast? = a.getLast? := by
  rw [List.getLast?_append]
  cases e : a.getLast? with
  | none => exact absurd (List.getLast?_eq_none_iff.mp e) h
  | some x => rfl
theorem low_fold : ∀ (l : Codes) (ws : List Codes) (acc : Codes), (∀ c ∈ acc, c ≠ 32) → lowEnd (l.foldl lowStep (rep ws acc)) = TL.joinL [32] (ws ++ wdA acc l)
  | [], ws, acc, ha => by
    rw [List.foldl_nil, wdA_nil]
    unfold lowEnd ne1
    by_cases h : acc = []
    · rw [if_pos h, h]
      unfold rep
      rw [if_pos rfl, List.append_nil]
      by_cases hw : ws = []
      · rw [if_pos hw, hw]; rfl
      · rw [if_neg hw, if_pos (by simp), List.dropLast_concat]
    · rw [if_neg h]
      obtain ⟨p, e⟩ := rep_last (ws := ws) h
      have : (rep ws acc).getLast? ≠ some 32 := by
        rw [e, getLast_app h]
        intro z
        exact ha 32 (List.mem_of_getLast? z) rfl
      rw [if_neg this]
      unfold rep
      rw [if_neg h]
  | c :: r, ws, acc, ha => by
    rw [List.foldl_cons]
    by_cases hc : c = 32
    · subst hc
      rw [wdA_sp]
      by_cases h : acc = []
      · subst h
        have : lowStep (rep ws []) 32 = rep ws [] := by
          unfold lowStep
          rw [if_neg]
          intro z
          rcases z with z | ⟨z1, z2⟩
          · exact z rfl
          · unfold rep at z1 z2
            rw [if_pos rfl] at z1 z2
            by_cases hw : ws = []
            · rw [if_pos hw] at z1; exact z1 rfl
            · rw [if_neg hw] at z2; exact z2 (by simp)
        rw [this, low_fold r ws [] (by simp)]
        rfl
      · have : lowStep (rep ws acc) 32 = rep (ws ++ [acc]) [] := by
          obtain ⟨p, e⟩ := rep_last (ws := ws) h
          have h2 : (rep ws acc).getLast? ≠ some 32 := by
            rw [e, getLast_app h]
            intro z
            exact ha 32 (List.mem_of_getLast? z) rfl
          have h3 : rep ws acc ≠ [] := by
            rw [e]
            intro z
            exact h (List.append_eq_nil_iff.mp z).2
          unfold lowStep
          rw [if_pos (.inr ⟨h3, h2⟩)]
          unfold rep
          rw [if_neg h, if_pos rfl, if_neg (by simp)]
        rw [this, low_fold r (ws ++ [acc]) [] (by simp)]
        unfold ne1
        rw [if_neg h, List.append_assoc]
    · rw [wdA_ch acc r hc]
      have : lowStep (rep ws acc) c = rep ws (acc ++ [c]) := by
        unfold lowStep
        rw [if_pos (.inl hc)]
        unfold rep
        rw [if_neg (by simp : acc ++ [c] ≠ [])]
        by_cases h : acc = []
        · subst h
          rw [if_pos rfl]
          by_cases hw : ws = []
          · rw [if_pos hw, hw]; rfl
          · rw [if_neg hw, List.nil_append, joinL_snoc _ _ _ hw]
        · rw [if_neg h]
          by_cases hw : ws = []
          · rw [hw, List.nil_append, List.nil_append, joinL_one, joinL_one]
          · rw [joinL_snoc _ _ _ hw, joinL_snoc _ _ _ hw, List.append_assoc]
      rw [this]
      exact low_fold r ws (acc ++ [c]) (fun x hx => by
        rcases List.mem_append.mp hx with hx | hx
        · exact ha x hx
        · rw [List.mem_singleton.mp hx]; exact hc)
theorem low_plain (l : Codes) : lowEnd ((lowL l).foldl lowStep []) = plainL l := low_fold (lowL l) [] [] (by simp)
theorem lo1_asc : ∀ c, c < 128 → PyProof.Rows.lo1 c < 128 := by decide
theorem lowL_len (l : Codes) : (lowL l).length = l.length := List.length_map ..
theorem lowStep_len (f : Codes) (d : Nat) : (lowStep f d).length ≤ f.length + 1 := by
  unfold lowStep
  split
  · simp
  · omega
theorem lowFold_len : ∀ (l f : Codes), (l.foldl lowStep f).length ≤ f.length + l.length
  | [], f => Nat.le_refl _
  | c :: r, f => by
    rw [List.foldl_cons, List.length_cons]
    have := lowFold_len r (lowStep f c)
    have := lowStep_len f c
    omega
theorem plainL_len (l : Codes) : (plainL l).length ≤ l.length := by
  rw [← low_plain]
  have h := lowFold_len (lowL l) []
  rw [lowL_len] at h
  unfold lowEnd
  have e : ([] : Codes).length = 0 := rfl
  split
  · rw [List.length_dropLast]
    omega
  · omega
theorem wds_mem {x : Codes} {l : Codes} (h : x ∈ wds l) : x ≠ [] := by
  have := (List.mem_filter.mp h).2
  intro e
  rw [e] at this
  cases this

end My
namespace My
open PySem PySem.Spec PyProof.Rows L2
section
variable {P : Program} [hP : OkP fileS P] {w : World} {K : PySem.W.Frag} {mg : Str → Option Value} {base : Heap}
abbrev N0_plain_text : List Str := ["value", "part"]
theorem sc0_plain_text : FnScope N0_plain_text ["value"] (defScope s_plain_text) := ⟨rfl, rfl, rfl, by decide +kernel, rfl, by decide +kernel, by decide +kernel⟩
-- slots: 0 value, 1 part
def sp_plain_text : Sp := pureSp (fun (l : Codes) _ vs _ => vs = [sv l] ∧ asc l ∧ l.length ≤ 20000) (fun l => is (sv (plainL l)))
theorem wds_sum (l : Codes) : ((wds l).map (·.length)).sum + (wds l).length ≤ l.length + l.length + 2 := by
  unfold wds
  have h : ∀ (r acc : Codes), ((wdA acc r).map (·.length)).sum + (wdA acc r).length ≤ (acc.length + r.length) + (1 + r.length) := by
    intro r
    induction r with
    | nil =>
      intro acc
      rw [wdA_nil]
      unfold ne1
      split
      · simp
      · simp
    | cons c r ih =>
      intro acc
      by_cases hc : c = 32
      · subst hc
        rw [wdA_sp]
        have h1 := ih []
        have h2 : ((ne1 acc).map (·.length)).sum + (ne1 acc).length ≤ acc.length + 1 := by
          unfold ne1
          split
          · simp
          · simp
        rw [List.map_append, List.sum_append, List.length_append]
        simp only [List.length_nil, List.length_cons] at h1 ⊢
        omega
      · rw [wdA_ch _ _ hc]
        have h1 := ih (acc ++ [c])
        simp only [List.length_append, List.length_singleton, List.length_cons, List.length_nil] at h1 ⊢
        omega
  have := h l []
  unfold wdA at this
  simp only [List.length_nil] at this
  omega
theorem filter_sv (ls : List Codes) : ((ls.map sv).filter fun v => !decide (v = sv [])) = (ls.filter fun x => !decide (x = [])).map sv := by
  rw [List.filter_map]
  congr 1
  refine List.filter_congr fun x _ => ?_
  show (!decide (sv x = sv [])) = _
  rw [dec_sv]
theorem c0_plain_text (T : Tx K mg) : Cal P w K mg base 1 "plain_text" ["value"] (sp_plain_text) := by
  refine T.d_plain_text.cal sc0_plain_text (fun vs H Q E h => ?_) (fun _ _ _ _ _ _ us hl => match us, hl with | [_], _ => rfl) (fun f cdv A outer s H vs Q E hr h => ?_)
  · obtain ⟨R, n, l, _, ⟨rfl, _⟩, _⟩ := h
    rfl
  · obtain ⟨R, n, l, hj, ⟨rfl, ha, hl⟩, q⟩ := h
    refine ⟨_, (pss_one (ps_ret (pe_bmK (K := K) PySem.F.plainAttrs_str PySem.F.slot_str_join PySem.F.type_str_join (mt_joinA (K := K)) pe_str (pa_cons (pe_lc (own := [("part", 1)]) (by rfl) sc0_plain_text.nd (pi_any (K := K) (pe_bmK (K := K) PySem.F.plainAttrs_str PySem.F.slot_str_split PySem.F.type_str_split mt_splitA (pe_bm0K (K := K) PySem.F.plainAttrs_str PySem.F.slot_str_lower PySem.F.type_str_lower mt_lowerA (pv 0)) (pa_cons pe_str pa_nil))) (blkOk_by (own := [("part", 1)]) (N := N0_plain_text) (sc := defScope s_plain_text) (by decide +kernel)) (fun _ _ _ _ _ => (pg_name (i := 1) sc0_plain_text.nd rfl (by first | exact Or.inl rfl | exact Or.inr rfl))) (fun _ _ _ _ _ => (pts_one (pt_cmpR (cm_NotEq (K := K) hr.units) (pv 1) pe_str (nomark _)))) (fun _ _ _ _ _ => (pv 1))) pa_nil)))), ?_⟩
    refine StF.run (R := R) (n := n) ?_ hj
    refine s_ret (m := n) (p := is (sv (plainL l))) ?_ q
    have hsp := ev_split (K := K) (R := R) (n := n) (σ := start N0_plain_text [sv l]) (H := H) (ev_lower (K := K) (ev_var (i := 0) rfl) ha (by omega)) (ev_str (l := [32]) (c := " ") (by decide +kernel)) (by simp) (by decide) (by rw [List.length_map]; omega)
    refine ev_joinV (ls := wds (lowL l)) (ev_str (by decide +kernel)) ?_ ?_
    · have h2 := ev_lcV (t := tTest (tOp (rNeU K) (tVar 1) (tC (.str "")))) (te := tVar 1) (vs := [1]) (j := 1) (fun v => !decide (v = sv [])) id (it_lstV (K := K) hsp) (by
        rw [List.length_map]
        have : ∀ (r acc : Codes), (TL.spl [32] 0 acc r).length ≤ r.length + 1 := by
          intro r
          induction r with
          | nil => intro acc; rw [TL.spl_nil]; simp
          | cons c r ih =>
            intro acc
            by_cases hc : TL.pre [32] (c :: r) = true
            · rw [TL.spl_hit hc]
              have := ih []
              simp only [List.length_cons] at this ⊢
              show (TL.spl [32] 0 [] r).length + 1 ≤ _
              omega
            · rw [TL.spl_miss (Bool.eq_false_iff.mpr hc)]
              have := ih (acc ++ [c])
              simp only [List.length_cons] at this ⊢
              omega
        have h3 := this (l.map PyProof.Rows.lo1) []
        rw [List.length_map] at h3
        omega) (fun x => rfl) (fun R' H' w ex hw => by
          obtain ⟨c, hc, rfl⟩ := List.mem_map.mp hw
          exact ⟨et_is (et_test (ev_op2 (ev_var (v := sv c) rfl) (ev_str (l := []) (by decide +kernel)) (fun H1 _ => rv_neS))) (by rw [← dec_sv]), fun _ => ev_var rfl⟩)
      rw [List.map_id, filter_sv] at h2
      exact h2
    · have h3 := wds_sum (lowL l)
      rw [lowL_len] at h3
      show _ + _ * 1 ≤ _
      omega

end
end My
namespace My
open PySem PySem.Spec PyProof.Rows L2
-- plain
/-! texts: strip, find of one sign -/
def stripL (a b : Codes) : Codes := cs (Txt.stripChars (SX.S a) (SX.S b))
theorem tw_all {p : Nat → Bool} : ∀ {l : Codes}, (∀ c ∈ l, p c = true) → l.takeWhile p = l
  | [], _ => rfl
  | c :: r, h => by rw [List.takeWhile_cons, if_pos (h c (List.mem_cons_self ..)), tw_all fun x hx => h x (List.mem_cons_of_mem _ hx)]
theorem tw_lt {p : Nat → Bool} : ∀ {l : Codes}, (∃ c ∈ l, p c = false) → (l.takeWhile p).length < l.length
  | [], h => by obtain ⟨c, hc, _⟩ := h; cases hc
  | c :: r, h => by
    rw [List.takeWhile_cons]
    by_cases hp : p c = true
    · rw [if_pos hp]
      obtain ⟨d, hd, hd2⟩ := h
      rcases List.mem_cons.mp hd with e | e
      · rw [e, hp] at hd2; cases hd2
      · have := tw_lt ⟨d, e, hd2⟩
        simp only [List.length_cons]
        omega
    · rw [if_neg hp]
      simp
theorem tw_next {p : Nat → Bool} : ∀ {l : Codes}, (∃ c ∈ l, p c = false) → ∃ d r, l.drop (l.takeWhile p).length = d :: r ∧ p d = false
  | [], h => by obtain ⟨c, hc, _⟩ := h; cases hc
  | c :: r, h => by
    rw [List.takeWhile_cons]
    by_cases hp : p c = true
    · rw [if_pos hp]
      obtain ⟨d, hd, hd2⟩ := h
      rcases List.mem_cons.mp hd with e | e
      · rw [e, hp] at hd2; cases hd2
      · exact tw_next ⟨d, e, hd2⟩
    · rw [if_neg hp]
      exact ⟨c, r, rfl, Bool.eq_false_iff.mpr hp⟩
theorem stripL_eq (a b : Codes) : stripL a b = (a.drop (a.takeWhile fun c => b.contains c).length).take ((a.length - ((a.drop (a.takeWhile fun c => b.contains c).length).reverse.takeWhile fun c => b.contains c).length) - (a.takeWhile fun c => b.contains c).length) := by
  unfold stripL Txt.stripChars
  rw [PyProof.Rows.stripBy_eq]
  have hc : (SX.S b).cps.contains = fun c => b.contains c := by
    funext c
    show (b.toArray).contains c = _
    rw [List.contains_toArray]
  rw [hc]
  refine (TL.tl_strSub _ _ _).trans ?_
  have hl : (SX.S a).length = a.length := SX.S_len a
  simp only [stripLo, stripHi, hl, if_true]
theorem strip_nil {a b : Codes} : stripL a b = [] ↔ ∀ c ∈ a, c ∈ b := by
  rw [stripL_eq]
  constructor
  · intro h c hc
    refine Classical.byContradiction fun hn => ?_
    have hx : ∃ c ∈ a, (b.contains c) = false := ⟨c, hc, by
      cases e : b.contains c with
      | false => rfl
      | true => exact absurd (List.contains_iff_mem.mp e) hn⟩
    obtain ⟨d, r, hd, hd2⟩ := tw_next (p := fun c => b.contains c) hx
    have hlt := tw_lt (p := fun c => b.contains c) hx
    have h3 : ((a.drop (a.takeWhile fun c => b.contains c).length).reverse.takeWhile fun c => b.contains c).length < (a.drop (a.takeWhile fun c => b.contains c).length).reverse.length := tw_lt ⟨d, by rw [hd]; simp, hd2⟩
    rw [List.length_reverse, List.length_drop] at h3
    have := congrArg List.length h
    rw [List.length_take, List.length_drop, List.length_nil] at this
    omega
  · intro h
    have e : a.takeWhile (fun c => b.contains c) = a := tw_all fun c hc => List.contains_iff_mem.mpr (h c hc)
    rw [e, List.drop_length, List.take_nil]
/-- the place of one sign in a text of the row's own: by looking -/
def findL (a b : Codes) : Int := Txt.find (SX.S a) (SX.S b)

end My
namespace My
open PySem PySem.Spec PyProof.Rows L2
-- plain
/-! names by their codes: what the program reads is what the law reads -/
def isWordL (l : Codes) : Bool := decide (1 ≤ l.length ∧ l.length ≤ 12) && (!decide (l = [115, 101, 108, 102]) && l.all fun c => decide (97 ≤ c ∧ c ≤ 122))
/-- a text between marks that no backslash stands before -/
def sp (m : Nat) : Codes → Codes → List Codes
  | acc, [] => [acc]
  | acc, [c] => if c = m then [acc, []] else [acc ++ [c]]
  | acc, c :: d :: r => if c = m then acc :: sp m [] (d :: r) else if c = 92 then sp m (acc ++ [92, d]) r else sp m (acc ++ [c]) (d :: r)
def isSep (c : Nat) : Bool := decide (c = 44) || decide (c = 43)
/-- up to the next comma or plus sign, and the rest from there on -/
def cut2 : Codes → Codes × Codes
  | [] => ([], [])
  | [c] => if isSep c then ([], [c]) else ([c], [])
  | c :: d :: r => if isSep c then ([], c :: d :: r) else if c = 92 then (92 :: d :: (cut2 r).1, (cut2 r).2) else (c :: (cut2 (d :: r)).1, (cut2 (d :: r)).2)
/-- without backslashes -/
def fnd : Codes → Codes
  | [] => []
  | [c] => [c]
  | c :: d :: r => if c = 92 then d :: fnd r else c :: fnd (d :: r)
def must (n i c : Nat) : Bool := decide (c = 44 ∨ c = 43 ∨ c = 61 ∨ c = 92) || (decide (c = 32) && decide (i = 0 ∨ i + 1 = n))
def escF (n : Nat) : Nat → Codes → Codes
  | _, [] => []
  | i, c :: r => (if must n i c then [92] else []) ++ (c :: escF n (i + 1) r)
def escL (l : Codes) : Codes := escF l.length 0 l
def mustF (n : Nat) : Nat → Codes → List Bool
  | _, [] => []
  | i, c :: r => must n i c :: mustF n (i + 1) r
/-- signs and whether a backslash stood before each; none: a backslash at the end -/
def bare1 : Codes → Option (Codes × List Bool)
  | [] => some ([], [])
  | [c] => if c = 92 then none else some ([c], [false])
  | c :: d :: r => if c = 92 then (bare1 r).map fun q => (d :: q.1, true :: q.2) else (bare1 (d :: r)).map fun q => (c :: q.1, false :: q.2)
def bareL (raw : Codes) : Option Codes := match bare1 raw with
  | none => none
  | some (f, fl) => if fl = mustF f.length 0 f then some f else none
def valP (raw : Codes) : Option Codes := if escL (fnd raw) = raw then some (fnd raw) else none
def enc : Codes → List Bool → Codes
  | c :: r, true :: bs => 92 :: c :: enc r bs
  | c :: r, false :: bs => c :: enc r bs
  | _, _ => []
theorem escF_enc (n : Nat) : ∀ (i : Nat) (l : Codes), escF n i l = enc l (mustF n i l)
  | _, [] => rfl
  | i, c :: r => by
    unfold escF mustF
    cases h : must n i c with
    | true => simp only [if_true, List.cons_append, List.nil_append, enc, escF_enc n (i + 1) r]
    | false => simp only [Bool.false_eq_true, if_false, List.nil_append, enc, escF_enc n (i + 1) r]
theorem bare1_enc : ∀ {raw f : Codes} {fl : List Bool}, bare1 raw = some (f, fl) → raw = enc f fl ∧ fnd raw = f
  | [], _, _, h => by cases h; exact ⟨rfl, rfl⟩
  | [c], _, _, h => by
    unfold bare1 at h
    split at h
    · cases h
    · cases h; exact ⟨rfl, rfl⟩
  | c :: d :: r, _, _, h => by
    unfold bare1 at h
    split at h
    · next hc =>
      obtain ⟨q, hq, e⟩ := Option.map_eq_some_iff.mp h
      cases e
      obtain ⟨h1, h2⟩ := bare1_enc (raw := r) (f := q.1) (fl := q.2) hq
      refine ⟨?_, ?_⟩
      · rw [hc]; show 92 :: d :: r = 92 :: d :: enc q.1 q.2; rw [← h1]
      · unfold fnd; rw [if_pos hc, h2]
    · next hc =>
      obtain ⟨q, hq, e⟩ := Option.map_eq_some_iff.mp h
      cases e
      obtain ⟨h1, h2⟩ := bare1_enc (raw := d :: r) (f := q.1) (fl := q.2) hq
      refine ⟨?_, ?_⟩
      · show c :: d :: r = c :: enc q.1 q.2; rw [← h1]
      · unfold fnd; rw [if_neg hc, h2]
theorem enc_bare (n : Nat) : ∀ (i : Nat) (f : Codes), bare1 (enc f (mustF n i f)) = some (f, mustF n i f)
  | _, [] => rfl
  | i, c :: r => by
    have ih := enc_bare n (i + 1) r
    unfold mustF
    cases h : must n i c with
    | true =>
      show bare1 (92 :: c :: enc r (mustF n (i + 1) r)) = _
      unfold bare1
      rw [if_pos rfl, ih]
      rfl
    | false =>
      have hc : c ≠ 92 := fun e => by
        rw [e] at h
        unfold must at h
        simp at h
      show bare1 (c :: enc r (mustF n (i + 1) r)) = _
      cases he : enc r (mustF n (i + 1) r) with
      | nil =>
        rw [he] at ih
        have e0 : bare1 [] = some ([], []) := rfl
        rw [e0] at ih
        have ih := Option.some.inj ih
        have h1 : ([] : Codes) = r := congrArg Prod.fst ih
        have h2 : ([] : List Bool) = mustF n (i + 1) r := congrArg Prod.snd ih
        rw [← h2, ← h1]
        unfold bare1
        rw [if_neg hc]
      | cons d t =>
        rw [he] at ih
        unfold bare1
        rw [if_neg hc, ih]
        rfl
theorem valP_bare (raw : Codes) : valP raw = bareL raw := by
  unfold valP bareL
  have key : ∀ f, escL f = raw → bare1 raw = some (f, mustF f.length 0 f) := fun f e => by
    rw [← e]
    unfold escL
    rw [escF_enc]
    exact enc_bare f.length 0 f
  cases h : bare1 raw with
  | none =>
    rw [if_neg]
    intro e
    rw [key _ e] at h
    cases h
  | some q =>
    obtain ⟨f, fl⟩ := q
    obtain ⟨h1, h2⟩ := bare1_enc h
    rw [h2]
    show (if escL f = raw then some f else none) = if fl = mustF f.length 0 f then some f else none
    by_cases e : fl = mustF f.length 0 f
    · rw [if_pos e, if_pos]
      unfold escL
      rw [escF_enc, ← e, ← h1]
    · rw [if_neg e, if_neg]
      intro z
      have := key f z
      rw [h] at this
      exact e (congrArg Prod.snd (Option.some.inj this))
/-! ### a value that can stand in a relative name -/
def isPlainL (l : Codes) : Bool := !decide (l = []) && (!decide (10 ∈ l) && (decide (l.length ≤ 60) && !decide (plainL l = [])))
def isTextL (l : Codes) : Bool := decide (1 ≤ l.length ∧ l.length ≤ 60) && (!decide (10 ∈ l) && !decide (stripL l [32] = []))
theorem lo1_32 {c : Nat} : PyProof.Rows.lo1 c = 32 ↔ c = 32 := by
  unfold PyProof.Rows.lo1
  split <;> omega
theorem wdA_none : ∀ (l acc : Codes), wdA acc l = [] ↔ acc = [] ∧ ∀ c ∈ l, c = 32
  | [], acc => by
    rw [wdA_nil]
    unfold ne1
    split
    · next h => exact ⟨fun _ => ⟨h, fun c hc => by cases hc⟩, fun _ => rfl⟩
    · next h => exact ⟨fun z => (by cases z), fun z => absurd z.1 h⟩
  | c :: r, acc => by
    by_cases hc : c = 32
    · subst hc
      rw [wdA_sp]
      have ih := wdA_none r []
      constructor
      · intro h
        obtain ⟨h1, h2⟩ := List.append_eq_nil_iff.mp h
        refine ⟨?_, fun d hd => ?_⟩
        · unfold ne1 at h1
          split at h1
          · next h => exact h
          · cases h1
        · rcases List.mem_cons.mp hd with rfl | hd
          · rfl
          · exact (ih.mp h2).2 d hd
      · rintro ⟨rfl, h⟩
        rw [ih.mpr ⟨rfl, fun d hd => h d (List.mem_cons_of_mem _ hd)⟩]
        rfl
    · rw [wdA_ch _ _ hc, wdA_none r (acc ++ [c])]
      constructor
      · rintro ⟨h, _⟩
        simp at h
      · rintro ⟨_, h⟩
        exact absurd (h c (List.mem_cons_self ..)) hc
theorem joinL_ne : ∀ {ws : List Codes}, ws ≠ [] → (∀ x ∈ ws, x ≠ []) → TL.joinL [32] ws ≠ []
  | [], h, _ => absurd rfl h
  | [x], _, h => by rw [joinL_one]; exact h x (List.mem_cons_self ..)
  | x :: y :: r, _, h => by
    rw [joinL_cons2]
    intro e
    simp at e
theorem plainL_nil (l : Codes) : plainL l = [] ↔ ∀ c ∈ l, c = 32 := by
  unfold plainL
  have h := wdA_none (lowL l) []
  constructor
  · intro e c hc
    have : wds (lowL l) = [] := Classical.byContradiction fun z => joinL_ne z (fun x hx => wds_mem hx) e
    exact lo1_32.mp ((h.mp this).2 _ (List.mem_map_of_mem hc))
  · intro e
    have : wds (lowL l) = [] := h.mpr ⟨rfl, fun c hc => by
      obtain ⟨d, hd, rfl⟩ := List.mem_map.mp hc
      exact lo1_32.mpr (e d hd)⟩
    rw [this]
    rfl
theorem plain_strip (l : Codes) : decide (plainL l = []) = decide (stripL l [32] = []) := by
  have h1 := plainL_nil l
  have h2 := strip_nil (a := l) (b := [32])
  have h3 : plainL l = [] ↔ stripL l [32] = [] := by
    rw [h1, h2]
    constructor
    · intro h c hc; rw [h c hc]; exact List.mem_singleton.mpr rfl
    · intro h c hc; exact List.mem_singleton.mp (h c hc)
  by_cases h : plainL l = []
  · rw [decide_eq_true h, decide_eq_true (h3.mp h)]
  · rw [decide_eq_false h, decide_eq_false fun z => h (h3.mpr z)]
theorem plain_text_same (l : Codes) : isPlainL l = isTextL l := by
  unfold isPlainL isTextL
  rw [plain_strip]
  cases l with
  | nil => rfl
  | cons c r =>
    have e1 : decide (c :: r = []) = false := rfl
    rw [e1]
    by_cases h : (c :: r).length ≤ 60
    · rw [decide_eq_true h, decide_eq_true (show 1 ≤ (c :: r).length ∧ (c :: r).length ≤ 60 from ⟨by simp, h⟩)]
      cases decide (10 ∈ c :: r) <;> rfl
    · rw [decide_eq_false h, decide_eq_false (show ¬ (1 ≤ (c :: r).length ∧ (c :: r).length ≤ 60) from fun z => h z.2)]
      cases decide (10 ∈ c :: r) <;> rfl
/-! ### one pair -/
abbrev Pair := Codes × Codes
def pairLaw (q : Codes) : Option Pair := match sp 61 [] q with
  | [w, raw] => (match bareL raw with
    | some v => if isWordL w && isTextL v then some (w, v) else none
    | none => none)
  | _ => none
def letters (w : Codes) : Prop := ∀ c ∈ w, 97 ≤ c ∧ c ≤ 122
theorem isWordL_letters {w : Codes} (h : isWordL w = true) : letters w := by
  unfold isWordL at h
  rw [Bool.and_eq_true, Bool.and_eq_true] at h
  intro c hc
  exact of_decide_eq_true (List.all_eq_true.mp h.2.2 c hc)
theorem sp_plain {m c : Nat} (acc r : Codes) (hm : c ≠ m) (h92 : c ≠ 92) : sp m acc (c :: r) = sp m (acc ++ [c]) r := by
  cases r with
  | nil => unfold sp; rw [if_neg hm]
  | cons d t => conv => lhs; unfold sp
                rw [if_neg hm, if_neg h92]
theorem sp_plain' {m c : Nat} {acc : Codes} (hm : c ≠ m) : sp m acc [c] = [acc ++ [c]] := by
  unfold sp; rw [if_neg hm]
theorem sp_mark (m : Nat) (acc r : Codes) : sp m acc (m :: r) = acc :: sp m [] r := by
  cases r with
  | nil => simp [sp]
  | cons d t => conv => lhs; unfold sp
                rw [if_pos rfl]
theorem sp_word {w : Codes} (hw : letters w) : ∀ (acc raw : Codes), sp 61 acc (w ++ 61 :: raw) = (acc ++ w) :: sp 61 [] raw := by
  induction w with
  | nil => intro acc raw; rw [List.nil_append, sp_mark, List.append_nil]
  | cons c r ih =>
    intro acc raw
    have hc := hw c (List.mem_cons_self ..)
    rw [List.cons_append, sp_plain _ _ (by omega) (by omega), ih fun x hx => hw x (List.mem_cons_of_mem _ hx)]
    rw [List.append_assoc]
    rfl
theorem sp_cons2 (m : Nat) (acc : Codes) (c d : Nat) (r : Codes) : sp m acc (c :: d :: r) = if c = m then acc :: sp m [] (d :: r) else if c = 92 then sp m (acc ++ [92, d]) r else sp m (acc ++ [c]) (d :: r) := by
  conv => lhs; unfold sp
/-- every piece's beginning -/
theorem sp_head : ∀ (m : Nat) (l acc : Codes), ∃ p ps, sp m acc l = p :: ps ∧ ∃ t, p = acc ++ t ∧ (ps = [] → t = l) ∧ (ps ≠ [] → ∃ l2, l = t ++ m :: l2 ∧ ps = sp m [] l2)
  | m, [], acc => ⟨acc, [], rfl, [], by simp, fun _ => rfl, fun z => absurd rfl z⟩
  | m, [c], acc => by
    have e0 : sp m acc [c] = if c = m then [acc, []] else [acc ++ [c]] := rfl
    rw [e0]
    by_cases h : c = m
    · rw [if_pos h, h]
      exact ⟨acc, [[]], rfl, [], by simp, fun z => (by cases z), fun _ => ⟨[], rfl, rfl⟩⟩
    · rw [if_neg h]
      exact ⟨_, [], rfl, [c], rfl, fun _ => rfl, fun z => absurd rfl z⟩
  | m, c :: d :: r, acc => by
    rw [sp_cons2]
    by_cases h : c = m
    · rw [if_pos h, h]
      refine ⟨acc, _, rfl, [], by simp, fun z => ?_, fun _ => ⟨d :: r, rfl, rfl⟩⟩
      obtain ⟨p, ps, e, _⟩ := sp_head m (d :: r) []
      rw [e] at z
      cases z
    · rw [if_neg h]
      by_cases h2 : c = 92
      · rw [if_pos h2, h2]
        obtain ⟨p, ps, e, t, e2, e3, e4⟩ := sp_head m r (acc ++ [92, d])
        refine ⟨p, ps, e, 92 :: d :: t, by rw [e2, List.append_assoc]; rfl, fun z => by rw [e3 z], fun z => ?_⟩
        obtain ⟨l2, e5, e6⟩ := e4 z
        exact ⟨l2, by rw [e5]; rfl, e6⟩
      · rw [if_neg h2]
        obtain ⟨p, ps, e, t, e2, e3, e4⟩ := sp_head m (d :: r) (acc ++ [c])
        refine ⟨p, ps, e, c :: t, by rw [e2, List.append_assoc]; rfl, fun z => by rw [e3 z], fun z => ?_⟩
        obtain ⟨l2, e5, e6⟩ := e4 z
        exact ⟨l2, by rw [e5]; rfl, e6⟩
theorem pairLaw_form {q : Codes} {w v : Codes} (h : pairLaw q = some (w, v)) : ∃ raw, q = w ++ 61 :: raw ∧ isWordL w = true ∧ isTextL v = true ∧ bareL raw = some v := by
  unfold pairLaw at h
  obtain ⟨p, ps, e, t, e2, e3, e4⟩ := sp_head 61 q []
  rw [e] at h
  cases ps with
  | nil => cases h
  | cons p2 ps =>
    cases ps with
    | cons => cases h
    | nil =>
      obtain ⟨l2, e5, e6⟩ := e4 (by simp)
      obtain ⟨p3, ps3, e7, t3, e8, e9, _⟩ := sp_head 61 l2 []
      rw [e7] at e6
      cases e6
      have e9 := e9 rfl
      rw [List.nil_append] at e2 e8
      rw [← e2] at e5
      have e10 : p2 = l2 := e8.trans e9
      rw [← e10] at e5
      dsimp only at h
      cases hb : bareL p2 with
      | none => rw [hb] at h; cases h
      | some v2 =>
        rw [hb] at h
        dsimp only at h
        by_cases hc : (isWordL p && isTextL v2) = true
        · rw [if_pos hc] at h
          cases h
          rw [Bool.and_eq_true] at hc
          exact ⟨p2, e5, hc.1, hc.2, hb⟩
        · rw [if_neg hc] at h
          cases h
/-- raw has an unescaped equals sign: then it tells nothing -/
theorem bare_eq {raw : Codes} : ∀ {f : Codes} {fl : List Bool} {n i : Nat}, bare1 raw = some (f, fl) → fl = mustF n i f → ∀ acc, sp 61 acc raw = [acc ++ raw] := by
  have main : ∀ (k : Nat) (raw f : Codes) (fl : List Bool) (n i : Nat), raw.length ≤ k → bare1 raw = some (f, fl) → fl = mustF n i f → ∀ acc, sp 61 acc raw = [acc ++ raw] := by
    intro k
    induction k with
    | zero =>
      intro raw f fl n i hk h _ acc
      have : raw = [] := List.length_eq_zero_iff.mp (Nat.le_zero.mp hk)
      subst this
      simp [sp]
    | succ k ih =>
      intro raw f fl n i hk h hm acc
      match raw, hk, h with
      | [], _, _ => simp [sp]
      | [c], _, h =>
        unfold bare1 at h
        split at h
        · cases h
        · cases h
          have h0 : must n i c = false := (List.cons.inj hm).1.symm
          have hc : c ≠ 61 := fun e => by rw [e] at h0; unfold must at h0; simp at h0
          unfold sp
          rw [if_neg hc]
      | c :: d :: r, hk, h =>
        unfold bare1 at h
        split at h
        · next hc =>
          obtain ⟨q, hq, e⟩ := Option.map_eq_some_iff.mp h
          cases e
          have h1 := ih r q.1 q.2 n (i + 1) (by simp only [List.length_cons] at hk; omega) hq (List.cons.inj hm).2 (acc ++ [92, d])
          unfold sp
          rw [if_neg (by rw [hc]; decide), if_pos hc, h1, hc, List.append_assoc]
          rfl
        · next hc =>
          obtain ⟨q, hq, e⟩ := Option.map_eq_some_iff.mp h
          cases e
          have h0 : must n i c = false := (List.cons.inj hm).1.symm
          have hc2 : c ≠ 61 := fun e => by rw [e] at h0; unfold must at h0; simp at h0
          have h1 := ih (d :: r) q.1 q.2 n (i + 1) (by simp only [List.length_cons] at hk ⊢; omega) hq (List.cons.inj hm).2 (acc ++ [c])
          unfold sp
          rw [if_neg hc2, if_neg hc, h1, List.append_assoc]
          rfl
  exact fun {f fl n i} h hm acc => main raw.length raw f fl n i (Nat.le_refl _) h hm acc
theorem pairLaw_word {w raw : Codes} (hw : isWordL w = true) : pairLaw (w ++ 61 :: raw) = match valP raw with
    | some v => if isPlainL v then some (w, v) else none
    | none => none := by
  unfold pairLaw
  rw [sp_word (isWordL_letters hw), List.nil_append, valP_bare]
  cases hb : bareL raw with
  | none =>
    obtain ⟨p, ps, e, t, e2, e3, e4⟩ := sp_head 61 raw []
    rw [e]
    cases ps with
    | cons => rfl
    | nil =>
      have e3 := e3 rfl
      rw [List.nil_append] at e2
      subst e2 e3
      dsimp only
      rw [hb]
  | some v =>
    have hb2 := hb
    unfold bareL at hb2
    cases h1 : bare1 raw with
    | none => rw [h1] at hb2; cases hb2
    | some q =>
      obtain ⟨f, fl⟩ := q
      rw [h1] at hb2
      dsimp only at hb2
      by_cases hm : fl = mustF f.length 0 f
      · rw [if_pos hm] at hb2
        cases hb2
        rw [bare_eq h1 hm [], List.nil_append]
        dsimp only
        rw [hb]
        dsimp only
        rw [hw, Bool.true_and, plain_text_same]
      · rw [if_neg hm] at hb2
        cases hb2

end My
namespace My
open PySem PySem.Spec PyProof.Rows L2
-- plain
/-! what the program's loop reads is what the law's pieces tell -/
theorem cut2_cons2 (c d : Nat) (r : Codes) : cut2 (c :: d :: r) = if isSep c then ([], c :: d :: r) else if c = 92 then (92 :: d :: (cut2 r).1, (cut2 r).2) else (c :: (cut2 (d :: r)).1, (cut2 (d :: r)).2) := by
  conv => lhs; unfold cut2
theorem cut2_one (c : Nat) : cut2 [c] = if isSep c then ([], [c]) else ([c], []) := rfl
theorem cut2_app : ∀ (l : Codes), (cut2 l).1 ++ (cut2 l).2 = l
  | [] => rfl
  | [c] => by rw [cut2_one]; split <;> rfl
  | c :: d :: r => by
    rw [cut2_cons2]
    split
    · rfl
    · split
      · next h => show 92 :: d :: ((cut2 r).1 ++ (cut2 r).2) = _; rw [cut2_app r, h]
      · show c :: ((cut2 (d :: r)).1 ++ (cut2 (d :: r)).2) = _; rw [cut2_app (d :: r)]
theorem cut2_sep : ∀ (l : Codes) {c : Nat} {r : Codes}, (cut2 l).2 = c :: r → c = 44 ∨ c = 43
  | [], _, _, h => by cases h
  | [a], c, r, h => by
    rw [cut2_one] at h
    split at h
    · next hs => cases h; unfold isSep at hs; simpa using hs
    · cases h
  | a :: d :: t, c, r, h => by
    rw [cut2_cons2] at h
    split at h
    · next hs => cases h; unfold isSep at hs; simpa using hs
    · split at h
      · exact cut2_sep t h
      · exact cut2_sep (d :: t) h
theorem sep_no {c m : Nat} (hm : m = 44 ∨ m = 43) (h : ¬ isSep c = true) : c ≠ m := by
  unfold isSep at h
  intro e
  apply h
  rcases hm with z | z <;> simp [e, z]
theorem cut2_end {m : Nat} (hm : m = 44 ∨ m = 43) : ∀ (l a : Codes), sp m a (cut2 l).1 = [a ++ (cut2 l).1]
  | [], a => by show sp m a [] = _; unfold sp; rw [show a ++ (cut2 []).1 = a from List.append_nil a]
  | [c], a => by
    rw [cut2_one]
    split
    · show sp m a [] = [a ++ []]; rw [List.append_nil]; rfl
    · next h => show sp m a [c] = [a ++ [c]]; rw [sp_plain' (sep_no hm h)]
  | c :: d :: r, a => by
    rw [cut2_cons2]
    split
    · show sp m a [] = [a ++ []]; rw [List.append_nil]; rfl
    · next h =>
      split
      · next h2 =>
        show sp m a (92 :: d :: (cut2 r).1) = [a ++ 92 :: d :: (cut2 r).1]
        rw [sp_cons2, if_neg (by rcases hm with z | z <;> rw [z] <;> decide), if_pos rfl, cut2_end hm r]
        simp
      · next h2 =>
        show sp m a (c :: (cut2 (d :: r)).1) = [a ++ c :: (cut2 (d :: r)).1]
        rw [sp_plain _ _ (sep_no hm h) h2, cut2_end hm (d :: r)]
        simp
theorem cut2_mark {m : Nat} (hm : m = 44 ∨ m = 43) : ∀ (l a : Codes) {x : Nat} {y : Codes}, (cut2 l).2 = x :: y → ∀ (z : Codes), sp m a ((cut2 l).1 ++ z) = sp m (a ++ (cut2 l).1) z
  | [], a, _, _, h, _ => by cases h
  | [c], a, x, y, h, z => by
    rw [cut2_one] at h ⊢
    split
    · show sp m a z = sp m (a ++ []) z; rw [List.append_nil]
    · next hs => rw [if_neg hs] at h; cases h
  | c :: d :: r, a, x, y, h, z => by
    rw [cut2_cons2] at h ⊢
    split
    · show sp m a z = sp m (a ++ []) z; rw [List.append_nil]
    · next hs =>
      rw [if_neg hs] at h
      split
      · next h2 =>
        rw [if_pos h2] at h
        show sp m a (92 :: d :: ((cut2 r).1 ++ z)) = sp m (a ++ 92 :: d :: (cut2 r).1) z
        rw [sp_cons2, if_neg (by rcases hm with z | z <;> rw [z] <;> decide), if_pos rfl, cut2_mark hm r _ h]
        simp
      · next h2 =>
        rw [if_neg h2] at h
        show sp m a (c :: ((cut2 (d :: r)).1 ++ z)) = sp m (a ++ c :: (cut2 (d :: r)).1) z
        rw [sp_plain _ _ (sep_no hm hs) h2, cut2_mark hm (d :: r) _ h]
        simp
theorem sp_acc (m : Nat) : ∀ (l acc : Codes), ∃ p ps, sp m [] l = p :: ps ∧ sp m acc l = (acc ++ p) :: ps := by
  have main : ∀ (k : Nat) (l a b : Codes), l.length ≤ k → ∃ p ps, sp m a l = (a ++ p) :: ps ∧ sp m b l = (b ++ p) :: ps := by
    intro k
    induction k with
    | zero =>
      intro l a b h
      have : l = [] := List.length_eq_zero_iff.mp (Nat.le_zero.mp h)
      subst this
      exact ⟨[], [], by simp [sp], by simp [sp]⟩
    | succ k ih =>
      intro l a b h
      match l, h with
      | [], _ => exact ⟨[], [], by simp [sp], by simp [sp]⟩
      | [c], _ =>
        by_cases hc : c = m
        · exact ⟨[], [[]], by rw [hc, sp_mark]; simp [sp], by rw [hc, sp_mark]; simp [sp]⟩
        · exact ⟨[c], [], sp_plain' hc, sp_plain' hc⟩
      | c :: d :: r, h =>
        simp only [List.length_cons] at h
        rw [sp_cons2, sp_cons2]
        by_cases hc : c = m
        · rw [if_pos hc, if_pos hc]
          exact ⟨[], _, by rw [List.append_nil], by rw [List.append_nil]⟩
        · rw [if_neg hc, if_neg hc]
          by_cases h2 : c = 92
          · rw [if_pos h2, if_pos h2]
            obtain ⟨p, ps, e1, e2⟩ := ih r (a ++ [92, d]) (b ++ [92, d]) (by omega)
            exact ⟨92 :: d :: p, ps, by rw [e1]; simp, by rw [e2]; simp⟩
          · rw [if_neg h2, if_neg h2]
            obtain ⟨p, ps, e1, e2⟩ := ih (d :: r) (a ++ [c]) (b ++ [c]) (by simp only [List.length_cons]; omega)
            exact ⟨c :: p, ps, by rw [e1]; simp, by rw [e2]; simp⟩
  intro l acc
  obtain ⟨p, ps, e1, e2⟩ := main l.length l [] acc (Nat.le_refl _)
  exact ⟨p, ps, e1, e2⟩
theorem cut2_len {l : Codes} {c : Nat} {r : Codes} (h : (cut2 l).2 = c :: r) : r.length < l.length := by
  have := congrArg List.length (cut2_app l)
  rw [h, List.length_append, List.length_cons] at this
  omega
/-- the pieces of a name, leaf by leaf -/
def groups (l : Codes) : List (List Codes) :=
  match h : (cut2 l).2 with
  | [] => [[(cut2 l).1]]
  | c :: r => if c = 44 then [(cut2 l).1] :: groups r else match groups r with
    | g :: gs => ((cut2 l).1 :: g) :: gs
    | [] => [[(cut2 l).1]]
termination_by l.length
decreasing_by all_goals exact cut2_len h
theorem groups_nil {l : Codes} (h : (cut2 l).2 = []) : groups l = [[(cut2 l).1]] := by
  rw [groups]; split
  · rfl
  · next h2 => rw [h] at h2; cases h2
theorem groups_comma {l r : Codes} (h : (cut2 l).2 = 44 :: r) : groups l = [(cut2 l).1] :: groups r := by
  rw [groups]; split
  · next h2 => rw [h] at h2; cases h2
  · next h2 => rw [h] at h2; cases h2; rw [if_pos rfl]
theorem groups_plus {l r : Codes} (h : (cut2 l).2 = 43 :: r) : groups l = match groups r with
    | g :: gs => ((cut2 l).1 :: g) :: gs
    | [] => [[(cut2 l).1]] := by
  rw [groups]; split
  · next h2 => rw [h] at h2; cases h2
  · next h2 => rw [h] at h2; cases h2; rw [if_neg (by decide)]
theorem groups_sp : ∀ (k : Nat) (l : Codes), l.length ≤ k → groups l = (sp 44 [] l).map (sp 43 []) := by
  intro k
  induction k with
  | zero =>
    intro l h
    have : l = [] := List.length_eq_zero_iff.mp (Nat.le_zero.mp h)
    subst this
    rw [groups_nil rfl]
    rfl
  | succ k ih =>
    intro l hk
    have ha := cut2_app l
    cases h : (cut2 l).2 with
    | nil =>
      rw [h, List.append_nil] at ha
      rw [groups_nil h]
      have e := cut2_end (m := 44) (Or.inl rfl) l []
      rw [ha] at e ⊢
      have e2 := cut2_end (m := 43) (Or.inr rfl) l []
      rw [ha] at e2
      rw [e, List.map_cons, List.map_nil, List.nil_append, e2, List.nil_append]
    | cons c r =>
      have hl := cut2_len h
      have ihr := ih r (by omega)
      rw [h] at ha
      have e2 := cut2_end (m := 43) (Or.inr rfl) l []
      rcases cut2_sep l h with z | z
      · subst z
        rw [groups_comma h, ihr]
        have e := cut2_mark (m := 44) (Or.inl rfl) l [] h (44 :: r)
        rw [ha, sp_mark] at e
        rw [e, List.map_cons, List.nil_append, e2, List.nil_append]
      · subst z
        have e := cut2_mark (m := 44) (Or.inl rfl) l [] h (43 :: r)
        rw [ha, sp_plain _ _ (by decide) (by decide), List.nil_append] at e
        obtain ⟨p, ps, e3, e4⟩ := sp_acc 44 r ((cut2 l).1 ++ [43])
        rw [groups_plus h, ihr, e, e3, e4, List.map_cons, List.map_cons]
        dsimp only
        have e5 := cut2_mark (m := 43) (Or.inr rfl) l [] h (43 :: p)
        rw [sp_mark, List.nil_append] at e5
        rw [List.append_assoc]
        show _ = sp 43 [] ((cut2 l).1 ++ 43 :: p) :: _
        rw [e5]
/-! ### the law's reading -/
def leafL (acc : List Pair) : List Codes → Option (List Pair)
  | [] => some acc
  | p :: ps => match pairLaw p with
    | none => none
    | some q => if q.1 ∈ acc.map Prod.fst then none else leafL (acc ++ [q]) ps
def lawLeaf (l : Codes) : Option (List Pair) := match leafL [] (sp 43 [] l) with
  | none => none
  | some ps => if ps.length ≤ 4 then some ps else none
def lawName (l : Codes) : Option (List (List Pair)) :=
  let ls := if l = [] then [] else (sp 44 [] l).map lawLeaf
  if none ∈ ls ∨ 12 < ls.length then none else some (ls.filterMap id)
/-! ### the program's reading -/
def pairP (rest : Codes) : Option (Pair × Codes) :=
  if 61 ∈ rest then
    let w := rest.takeWhile (fun c => !decide (c = 61))
    let a := (rest.dropWhile (fun c => !decide (c = 61))).tail
    if isWordL w then match valP (cut2 a).1 with
      | some v => if isPlainL v then some ((w, v), (cut2 a).2) else none
      | none => none
    else none
  else none
theorem cut2_plain {c : Nat} (r : Codes) (h : ¬ isSep c = true) (h2 : c ≠ 92) : cut2 (c :: r) = (c :: (cut2 r).1, (cut2 r).2) := by
  cases r with
  | nil => rw [cut2_one, if_neg h]; rfl
  | cons d t => rw [cut2_cons2, if_neg h, if_neg h2]
theorem cut2_word {w : Codes} (hw : letters w) (a : Codes) : cut2 (w ++ 61 :: a) = (w ++ 61 :: (cut2 a).1, (cut2 a).2) := by
  induction w with
  | nil => exact cut2_plain a (by decide) (by decide)
  | cons c r ih =>
    have hc := hw c (List.mem_cons_self ..)
    have hs : ¬ isSep c = true := by unfold isSep; simp; omega
    rw [List.cons_append, cut2_plain _ hs (by omega), ih fun x hx => hw x (List.mem_cons_of_mem _ hx)]
    rfl
theorem take_word : ∀ {w : Codes} (_ : letters w) (a : Codes), (w ++ 61 :: a).takeWhile (fun c => !decide (c = 61)) = w ∧ (w ++ 61 :: a).dropWhile (fun c => !decide (c = 61)) = 61 :: a
  | [], _, a => ⟨rfl, rfl⟩
  | c :: r, hw, a => by
    have hc := hw c (List.mem_cons_self ..)
    have h1 : (!decide (c = 61)) = true := by rw [decide_eq_false (by omega)]; rfl
    obtain ⟨e1, e2⟩ := take_word (w := r) (fun x hx => hw x (List.mem_cons_of_mem _ hx)) a
    refine ⟨?_, ?_⟩
    · show ((c :: (r ++ 61 :: a)).takeWhile _) = _
      rw [List.takeWhile_cons_of_pos (p := fun c => !decide (c = 61)) h1, e1]
    · show ((c :: (r ++ 61 :: a)).dropWhile _) = _
      rw [List.dropWhile_cons_of_pos (p := fun c => !decide (c = 61)) h1, e2]
theorem split61 : ∀ {l : Codes}, 61 ∈ l → l = l.takeWhile (fun c => !decide (c = 61)) ++ 61 :: (l.dropWhile (fun c => !decide (c = 61))).tail
  | [], h => by cases h
  | c :: r, h => by
    by_cases hc : c = 61
    · subst hc; rfl
    · have h1 : (!decide (c = 61)) = true := by rw [decide_eq_false hc]; rfl
      rw [List.takeWhile_cons_of_pos (p := fun c => !decide (c = 61)) h1, List.dropWhile_cons_of_pos (p := fun c => !decide (c = 61)) h1, List.cons_append, ← split61 ((List.mem_cons.mp h).resolve_left fun z => hc z.symm)]
theorem pairP_law (rest : Codes) : pairP rest = (pairLaw (cut2 rest).1).map fun q => (q, (cut2 rest).2) := by
  cases hq : pairLaw (cut2 rest).1 with
  | some q =>
    obtain ⟨w, v⟩ := q
    obtain ⟨raw, e1, e2, e3, e4⟩ := pairLaw_form hq
    have hw := isWordL_letters e2
    have ha := cut2_app rest
    rw [e1, List.append_assoc] at ha
    have hr : rest = w ++ 61 :: (raw ++ (cut2 rest).2) := ha.symm
    obtain ⟨t1, t2⟩ := take_word hw (raw ++ (cut2 rest).2)
    rw [← hr] at t1 t2
    have hc := cut2_word hw (raw ++ (cut2 rest).2)
    rw [← hr] at hc
    have c1 : (cut2 (raw ++ (cut2 rest).2)).1 = raw := by
      have := e1.symm.trans (congrArg Prod.fst hc)
      exact ((List.cons.inj (List.append_cancel_left this)).2).symm
    have c2 : (cut2 (raw ++ (cut2 rest).2)).2 = (cut2 rest).2 := (congrArg Prod.snd hc).symm
    unfold pairP
    rw [if_pos (by rw [hr]; simp), t1, t2]
    dsimp only [List.tail_cons]
    rw [if_pos e2, c1, c2, valP_bare, e4]
    dsimp only
    rw [if_pos (by rw [plain_text_same]; exact e3)]
    rfl
  | none =>
    unfold pairP
    split
    · next h61 =>
      dsimp only
      split
      · next hw =>
        have hr := split61 h61
        generalize rest.takeWhile (fun c => !decide (c = 61)) = w at hr hw ⊢
        generalize (rest.dropWhile (fun c => !decide (c = 61))).tail = a at hr ⊢
        rw [hr, cut2_word (isWordL_letters hw)] at hq
        dsimp only at hq
        rw [pairLaw_word hw] at hq
        cases hv : valP (cut2 a).1 with
        | none => rfl
        | some v =>
          rw [hv] at hq
          dsimp only at hq ⊢
          split
          · next hp => rw [if_pos hp] at hq; cases hq
          · rfl
      · rfl
    · rfl
theorem pairP_len {rest r : Codes} {q : Pair} {c : Nat} (h : pairP rest = some (q, c :: r)) : r.length < rest.length := by
  rw [pairP_law] at h
  obtain ⟨q2, _, e⟩ := Option.map_eq_some_iff.mp h
  exact cut2_len (congrArg Prod.snd e)
def shortL (ls : List (List Pair)) : Bool := decide (ls.length ≤ 12) && ls.all fun l => decide (l.length ≤ 4)
/-- the loop of read_name from a place on -/
def readP (leaves : List (List Pair)) (pairs : List Pair) (rest : Codes) : Option (List (List Pair)) :=
  match h : pairP rest with
  | none => none
  | some (q, []) => if q.1 ∈ pairs.map Prod.fst then none else if shortL (leaves ++ [pairs ++ [q]]) then some (leaves ++ [pairs ++ [q]]) else none
  | some (q, c :: r) => if q.1 ∈ pairs.map Prod.fst then none else if c = 44 then readP (leaves ++ [pairs ++ [q]]) [] r else readP leaves (pairs ++ [q]) r
termination_by rest.length
decreasing_by all_goals exact pairP_len h
theorem readP_none {leaves : List (List Pair)} {pairs : List Pair} {rest : Codes} (h : pairP rest = none) : readP leaves pairs rest = none := by
  rw [readP]; split <;> simp_all
theorem readP_end {leaves : List (List Pair)} {pairs : List Pair} {rest : Codes} {q : Pair} (h : pairP rest = some (q, [])) : readP leaves pairs rest = if q.1 ∈ pairs.map Prod.fst then none else if shortL (leaves ++ [pairs ++ [q]]) then some (leaves ++ [pairs ++ [q]]) else none := by
  rw [readP]; split
  · next h2 => rw [h] at h2; cases h2
  · next h2 => rw [h] at h2; cases h2; rfl
  · next h2 => rw [h] at h2; cases h2
theorem readP_more {leaves : List (List Pair)} {pairs : List Pair} {rest r : Codes} {q : Pair} {c : Nat} (h : pairP rest = some (q, c :: r)) : readP leaves pairs rest = if q.1 ∈ pairs.map Prod.fst then none else if c = 44 then readP (leaves ++ [pairs ++ [q]]) [] r else readP leaves (pairs ++ [q]) r := by
  rw [readP]; split
  · next h2 => rw [h] at h2; cases h2
  · next h2 => rw [h] at h2; cases h2
  · next h2 => rw [h] at h2; cases h2; rfl
def goG (pairs : List Pair) : List (List Codes) → Option (List (List Pair))
  | [] => some []
  | g :: gs => match leafL pairs g with
    | none => none
    | some ps => (goG [] gs).map (ps :: ·)
def finL (leaves : List (List Pair)) : Option (List (List Pair)) → Option (List (List Pair))
  | none => none
  | some ls => if shortL (leaves ++ ls) then some (leaves ++ ls) else none
theorem groups_ne (l : Codes) : ∃ g gs, groups l = g :: gs := by
  cases h : (cut2 l).2 with
  | nil => exact ⟨_, _, groups_nil h⟩
  | cons c r =>
    rcases cut2_sep l h with z | z
    · subst z; exact ⟨_, _, groups_comma h⟩
    · subst z
      rw [groups_plus h]
      cases groups r with
      | nil => exact ⟨_, _, rfl⟩
      | cons g gs => exact ⟨_, _, rfl⟩
theorem goG_cons (pairs : List Pair) (g : List Codes) (gs : List (List Codes)) : goG pairs (g :: gs) = match leafL pairs g with
    | none => none
    | some ps => (goG [] gs).map (ps :: ·) := rfl
theorem leafL_cons (acc : List Pair) (p : Codes) (ps : List Codes) : leafL acc (p :: ps) = match pairLaw p with
    | none => none
    | some q => if q.1 ∈ acc.map Prod.fst then none else leafL (acc ++ [q]) ps := rfl
theorem leafL_nil (acc : List Pair) : leafL acc [] = some acc := rfl
theorem readP_go : ∀ (k : Nat) (rest : Codes), rest.length ≤ k → ∀ leaves pairs, readP leaves pairs rest = finL leaves (goG pairs (groups rest)) := by
  intro k
  induction k with
  | zero =>
    intro rest h leaves pairs
    have : rest = [] := List.length_eq_zero_iff.mp (Nat.le_zero.mp h)
    subst this
    rw [readP_none rfl, groups_nil rfl]
    rfl
  | succ k ih =>
    intro rest hk leaves pairs
    have hp := pairP_law rest
    cases hq : pairLaw (cut2 rest).1 with
    | none =>
      rw [hq] at hp
      rw [readP_none hp]
      cases h : (cut2 rest).2 with
      | nil => rw [groups_nil h]; rw [goG_cons, leafL_cons, hq]; rfl
      | cons c r =>
        rcases cut2_sep rest h with z | z
        · subst z; rw [groups_comma h]; rw [goG_cons, leafL_cons, hq]; rfl
        · subst z
          rw [groups_plus h]
          obtain ⟨g, gs, e⟩ := groups_ne r
          rw [e]
          dsimp only
          rw [goG_cons, leafL_cons, hq]; rfl
    | some q =>
      rw [hq] at hp
      have hp : pairP rest = some (q, (cut2 rest).2) := hp
      cases h : (cut2 rest).2 with
      | nil =>
        rw [h] at hp
        rw [readP_end hp, groups_nil h]
        rw [goG_cons, leafL_cons, hq]
        dsimp only
        split
        · rfl
        · rfl
      | cons c r =>
        have hl := cut2_len h
        rw [h] at hp
        rw [readP_more hp]
        rcases cut2_sep rest h with z | z
        · subst z
          rw [groups_comma h, if_pos rfl, ih r (by omega)]
          rw [goG_cons, leafL_cons, hq]
          dsimp only
          split
          · rfl
          · rw [leafL_nil]
            dsimp only
            cases goG [] (groups r) with
            | none => rfl
            | some ls =>
              show finL _ _ = finL _ (some _)
              unfold finL
              dsimp only
              rw [List.append_assoc]
              rfl
        · subst z
          rw [groups_plus h, if_neg (show ¬ (43 : Nat) = 44 by decide), ih r (by omega)]
          obtain ⟨g, gs, e⟩ := groups_ne r
          rw [e]
          dsimp only
          rw [goG_cons, goG_cons, leafL_cons, hq]
          dsimp only
          split
          · rfl
          · rfl
theorem go_law : ∀ (xs : List Codes), goG [] (xs.map (sp 43 [])) = none ∧ none ∈ xs.map lawLeaf ∨ ∃ ls, goG [] (xs.map (sp 43 [])) = some ls ∧ ls.length = xs.length ∧ ((none ∈ xs.map lawLeaf ↔ ¬ (ls.all fun l => decide (l.length ≤ 4)) = true)) ∧ ((ls.all fun l => decide (l.length ≤ 4)) = true → (xs.map lawLeaf).filterMap id = ls)
  | [] => Or.inr ⟨[], rfl, rfl, by simp, fun _ => rfl⟩
  | x :: xs => by
    rw [List.map_cons, List.map_cons]
    rw [goG_cons]
    cases hx : leafL [] (sp 43 [] x) with
    | none =>
      refine Or.inl ⟨rfl, ?_⟩
      have : lawLeaf x = none := by unfold lawLeaf; rw [hx]
      rw [this]
      exact List.mem_cons_self ..
    | some ps =>
      dsimp only
      have hl : lawLeaf x = if ps.length ≤ 4 then some ps else none := by unfold lawLeaf; rw [hx]
      rcases go_law xs with ⟨h1, h2⟩ | ⟨ls, h1, h2, h3, h4⟩
      · rw [h1]
        exact Or.inl ⟨rfl, List.mem_cons_of_mem _ h2⟩
      · rw [h1]
        refine Or.inr ⟨ps :: ls, rfl, by simp [h2], ?_, ?_⟩
        · rw [hl, List.all_cons]
          by_cases h : ps.length ≤ 4
          · rw [if_pos h, decide_eq_true h, Bool.true_and, ← h3]
            simp
          · rw [if_neg h, decide_eq_false h]
            simp
        · intro ha
          rw [List.all_cons, Bool.and_eq_true] at ha
          rw [hl, if_pos (of_decide_eq_true ha.1)]
          show ps :: _ = _
          rw [h4 ha.2]
theorem sp_ne {m : Nat} {a l : Codes} : 1 ≤ (sp m a l).length := by
  obtain ⟨p, ps, _, e⟩ := sp_acc m l a
  rw [e]
  simp
/-- the whole: the program reads a text as the law does -/
theorem read_law {l : Codes} (h : l ≠ []) : readP [] [] l = lawName l := by
  rw [readP_go l.length l (Nat.le_refl _), groups_sp l.length l (Nat.le_refl _)]
  unfold lawName
  rw [if_neg h]
  dsimp only
  rcases go_law (sp 44 [] l) with ⟨h1, h2⟩ | ⟨ls, h1, h2, h3, h4⟩
  · rw [h1, if_pos (Or.inl h2)]
    rfl
  · rw [h1]
    unfold finL shortL
    dsimp only
    rw [List.nil_append]
    by_cases h12 : ls.length ≤ 12
    · rw [decide_eq_true h12, Bool.true_and]
      by_cases ha : (ls.all fun l => decide (l.length ≤ 4)) = true
      · rw [if_pos ha, if_neg, h4 ha]
        rintro (z | z)
        · exact h3.mp z ha
        · rw [List.length_map] at z; omega
      · rw [if_neg ha, if_pos (Or.inl (h3.mpr ha))]
    · rw [decide_eq_false h12, Bool.false_and, if_pos (Or.inr (by rw [List.length_map]; omega))]
      rfl

end My
namespace My
open PySem PySem.Spec PyProof.Rows L2
section
variable {P : Program} [hP : OkP fileS P] {w : World} {K : PySem.W.Frag} {mg : Str → Option Value} {base : Heap}
/-! ### is_word, is_value, is_plain -/
abbrev N0_is_word : List Str := ["value", "sign"]
theorem sc0_is_word : FnScope N0_is_word ["value"] (defScope s_is_word) := ⟨rfl, rfl, rfl, by decide +kernel, rfl, by decide +kernel, by decide +kernel⟩
-- slots: 0 value, 1 sign
def sp_is_word : Sp := pureSp (fun (l : Codes) _ vs _ => vs = [sv l] ∧ l.length ≤ 20000) (fun l => is (.bl (isWordL l)))
def letL : Codes := cs "abcdefghijklmnopqrstuvwxyz"
theorem letL_mem (c : Nat) : decide (c ∈ letL) = decide (97 ≤ c ∧ c ≤ 122) := by
  have h : letL = (List.range 26).map (· + 97) := by decide +kernel
  rw [h]
  by_cases hc : 97 ≤ c ∧ c ≤ 122
  · rw [decide_eq_true hc, decide_eq_true]
    exact List.mem_map.mpr ⟨c - 97, List.mem_range.mpr (by omega), by omega⟩
  · rw [decide_eq_false hc, decide_eq_false]
    intro z
    obtain ⟨i, hi, e⟩ := List.mem_map.mp z
    have := List.mem_range.mp hi
    omega
theorem all_map {α : Type} (f : α → Bool) (l : List α) : (l.map f).all id = l.all f := by
  rw [List.all_map]; rfl
theorem c0_is_word (T : Tx K mg) : Cal P w K mg base 1 "is_word" ["value"] (sp_is_word) := by
  refine T.d_is_word.cal sc0_is_word (fun vs H Q E h => ?_) (fun _ _ _ _ _ _ us hl => match us, hl with | [_], _ => rfl) (fun f cdv A outer s H vs Q E hr h => ?_)
  · obtain ⟨R, n, l, _, ⟨rfl, _⟩, _⟩ := h
    rfl
  · obtain ⟨R, n, l, hj, ⟨rfl, hl⟩, q⟩ := h
    refine ⟨_, (pss_cons (ps_if (PW.pt (pw_or (pt_not (pt_val (pe_callB (call_isiA (K := K)) (by rfl) T.b_isinstance (by decide +kernel) (pa_cons (pv 0) (pa_cons (pe_bty (T := "str") (by rfl) T.b_str (by decide +kernel)) pa_nil))))) (pw_or (pt_not (pt_chain cm_LtE cm_LtE pe_int (pe_callB (call_lenA (K := K)) (by rfl) T.b_len (by decide +kernel) (pa_cons (pv 0) pa_nil)) (pe_globI (by rfl) T.g_MAX_WORD))) (pw_or1 (pt_cmpR (cm_Eq (K := K) hr.units) (pv 0) pe_str (nomark _)))))) (pss_one (ps_ret pe_bl)) pss_nil)
      (pss_one (ps_ret (pe_callB (call_allA (K := K)) (by rfl) T.b_all (by decide +kernel) (pa_cons (pe_lc (own := [("sign", 1)]) (by rfl) sc0_is_word.nd (pi_any (K := K) (pv 0)) (blkOk_by (own := [("sign", 1)]) (N := N0_is_word) (sc := defScope s_is_word) (by decide +kernel)) (fun _ _ _ _ _ => (pg_name (i := 1) sc0_is_word.nd rfl (by first | exact Or.inl rfl | exact Or.inr rfl))) (fun _ _ _ _ _ => pts_nil) (fun _ _ _ _ _ => (pe_cmpR (cm_In (K := K) (hu65 hr)) (pv 1) (pe_globS (by rfl) T.g_LETTERS) (by rfl)))) pa_nil))))), ?_⟩
    refine StF.run (R := R) (n := n) ?_ hj
    refine q_whenB (m := n) (b := !true || (!(decide ((1 : Int) ≤ (l.length : Int)) && decide ((l.length : Int) ≤ 12)) || decide (l = [115, 101, 108, 102]))) (et_or (et_not (et_B (ev_isStr (ev_var rfl)))) fun _ => et_or (et_not (et_test (ev_chain ev_c (ev_lenS (ev_var rfl) (by omega)) ev_c (fun H3 _ => rv_leI) (fun H3 _ => rv_leI)))) fun _ => et_test (ev_op2 (ev_var rfl) (ev_str (l := [115, 101, 108, 102]) (by decide +kernel)) fun H3 _ => rv_eqS)) (fun hb => ?_) (fun hb => ?_)
    · refine s_ret (m := n) (p := is (.bl (isWordL l))) (ev_is ev_c ?_) q
      congr 1
      unfold isWordL
      by_cases h1 : 1 ≤ l.length ∧ l.length ≤ 12
      · rw [decide_eq_true (show (1 : Int) ≤ (l.length : Int) by omega), decide_eq_true (show (l.length : Int) ≤ 12 by omega)] at hb
        have hb : decide (l = [115, 101, 108, 102]) = true := hb
        rw [hb, decide_eq_true h1]
        rfl
      · rw [decide_eq_false h1]
        rfl
    · have h1 : 1 ≤ l.length ∧ l.length ≤ 12 := by
        refine Classical.byContradiction fun z => ?_
        have : (decide ((1 : Int) ≤ (l.length : Int)) && decide ((l.length : Int) ≤ 12)) = false := by
          rw [Bool.and_eq_false_iff, decide_eq_false_iff_not, decide_eq_false_iff_not]
          omega
        rw [this] at hb
        cases hb
      rw [decide_eq_true (show (1 : Int) ≤ (l.length : Int) by omega), decide_eq_true (show (l.length : Int) ≤ 12 by omega)] at hb
      have hb : decide (l = [115, 101, 108, 102]) = false := hb
      refine s_ret (m := n) (p := is (.bl (isWordL l))) (ev_is (ev_all (bs := l.map fun c => decide (97 ≤ c ∧ c ≤ 122)) ?_) ?_) q
      · have hit : ItP R n n (iAny K (tVar 0)) (start N0_is_word [sv l]) H ((l.map fun c => sv [c]).map is) := by
          rw [List.map_map]
          exact it_text (K := K) (ev_var rfl)
        have h2 := ev_lcV (t := tYes) (te := tOp (rInU K) (tVar 1) (tC (.str "abcdefghijklmnopqrstuvwxyz"))) (vs := [1]) (j := 1) (fun _ => true) (fun v => .bl (match v with | .str s => (match cs s with | [c] => decide (97 ≤ c ∧ c ≤ 122) | _ => false) | _ => false)) hit (by rw [List.length_map]; omega) (fun x => rfl) (fun R' H' w ex hw => by
          obtain ⟨c, hc, rfl⟩ := List.mem_map.mp hw
          refine ⟨fun H1 e Q k => k true H1 (R'.refl e) rfl, fun _ => ?_⟩
          exact ev_is (ev_op2 (ev_var (v := sv [c]) rfl) (ev_str (l := letL) (SX.S_tl _).symm) (fun H1 _ => rv_inS)) (by rw [letL_mem]))
        refine ev_is2 h2 ?_
        rw [List.filter_eq_self.mpr (fun _ _ => rfl), List.map_map, List.map_map]
        rfl
      · rw [all_map]
        unfold isWordL
        rw [decide_eq_true h1, hb]
        rfl

end
end My
namespace My
open PySem PySem.Spec PyProof.Rows L2
section
variable {P : Program} [hP : OkP fileS P] {w : World} {K : PySem.W.Frag} {mg : Str → Option Value} {base : Heap}
theorem sl_mid {l : Codes} {i j : Int} (h0 : 0 ≤ i) (h1 : i ≤ j) (h2 : j ≤ l.length) : sl l (some i) (some j) = (l.drop i.toNat).take (j - i).toNat := by
  unfold sl
  rw [C8.cutS_slice, beq_iff_eq.mp (PyProof.Rows.slice_closesL (x := SX.S l) h0 h1 (by rw [SX.S_len]; exact h2))]
theorem at_nat {α : Type} {l : List α} {i : Nat} {c : α} (h : l[i]? = some c) : atI l ((i : Nat) : Int) = some c := by
  have hl := (List.getElem?_eq_some_iff.mp h).1
  obtain ⟨x, h1, h2⟩ := atI_mem (xs := l) (i := (i : Int)) (by omega) (by omega)
  rw [Int.toNat_natCast, h] at h2
  cases h2
  exact h1
/-! ### is_value, is_plain -/
abbrev N0_is_value : List Str := ["value"]
theorem sc0_is_value : FnScope N0_is_value ["value"] (defScope s_is_value) := ⟨rfl, rfl, rfl, by decide +kernel, rfl, by decide +kernel, by decide +kernel⟩
-- slots: 0 value
/-- a text, or no text -/
def tOrN (K : PySem.W.Frag) (x : Option Codes) (M : Addr → Prop) (v : V) (H : Hp) : Prop := match x with
  | some l => v = sv l ∧ asc l ∧ l.length ≤ 20000
  | none => NoStr K M v H
def isValL : Option Codes → Bool
  | some l => !decide (l = []) && !decide (10 ∈ l)
  | none => false
def sp_is_value (K : PySem.W.Frag) : Sp := pureSp (fun (x : Option Codes) M vs H => ∃ v, vs = [v] ∧ tOrN K x M v H) (fun x => is (.bl (isValL x)))
theorem c0_is_value (T : Tx K mg) : Cal P w K mg base 1 "is_value" ["value"] (sp_is_value K) := by
  refine T.d_is_value.cal sc0_is_value (fun vs H Q E h => ?_) (fun _ _ _ _ _ _ us hl => match us, hl with | [_], _ => rfl) (fun f cdv A outer s H vs Q E hr h => ?_)
  · obtain ⟨R, n, x, _, ⟨v, rfl, _⟩, _⟩ := h
    rfl
  · obtain ⟨R, n, x, hj, ⟨v, rfl, hv⟩, q⟩ := h
    refine ⟨_, (pss_one (ps_ret (pe_and (pe_callB (call_isiA (K := K)) (by rfl) T.b_isinstance (by decide +kernel) (pa_cons (pv 0) (pa_cons (pe_bty (T := "str") (by rfl) T.b_str (by decide +kernel)) pa_nil))) (pe_and (pe_cmpR (cm_NotEq (K := K) hr.units) (pv 0) pe_str (nomark _)) (pe_one (pe_cmpR (cm_NotIn (K := K) (hu65 hr)) pe_str (pv 0) (by rfl))))))), ?_⟩
    refine StF.run (R := R) (n := n) ?_ hj
    refine s_ret (m := n) (p := is (.bl (isValL x))) ?_ q
    cases x with
    | none =>
      have hv : NoStr K R.M v H := hv
      exact ev_is (ev_andV (a := false) (b := false) (ev_isNoStr (ev_varP (p := noStr K) rfl hv)) (fun z => nomatch z)) rfl
    | some l =>
      obtain ⟨rfl, ha, hl⟩ := hv
      exact ev_is (ev_andV (a := true) (ev_isStr (ev_var rfl)) fun _ => ev_andV (ev_op2 (ev_var rfl) (ev_str (l := []) (by decide +kernel)) fun H3 _ => rv_neS) fun _ => ev_op2 (ev_str (l := [10]) (by decide +kernel)) (ev_var rfl) fun H3 _ => rv_niS) rfl
abbrev N0_is_plain : List Str := ["value"]
theorem sc0_is_plain : FnScope N0_is_plain ["value"] (defScope s_is_plain) := ⟨rfl, rfl, rfl, by decide +kernel, rfl, by decide +kernel, by decide +kernel⟩
-- slots: 0 value
def isPlainO : Option Codes → Bool
  | some l => isPlainL l
  | none => false
def sp_is_plain (K : PySem.W.Frag) : Sp := pureSp (fun (x : Option Codes) M vs H => ∃ v, vs = [v] ∧ tOrN K x M v H) (fun x => is (.bl (isPlainO x)))
theorem c0_is_plain (T : Tx K mg) : Cal P w K mg base 2 "is_plain" ["value"] (sp_is_plain K) := by
  have C_plain_text := c0_plain_text (P := P) (w := w) (base := base) T
  have C_is_value := c0_is_value (P := P) (w := w) (base := base) T
  refine T.d_is_plain.cal sc0_is_plain (fun vs H Q E h => ?_) (fun _ _ _ _ _ _ us hl => match us, hl with | [_], _ => rfl) (fun f cdv A outer s H vs Q E hr h => ?_)
  · obtain ⟨R, n, x, _, ⟨v, rfl, _⟩, _⟩ := h
    rfl
  · obtain ⟨R, n, x, hj, ⟨v, rfl, hv⟩, q⟩ := h
    refine ⟨_, (pss_one (ps_ret (pe_and (pe_callC C_is_value (hr.mono (by decide)) (by rfl) (pa_cons (pv 0) pa_nil)) (pe_and (pe_cmpR cm_LtE (pe_callB (call_lenA (K := K)) (by rfl) T.b_len (by decide +kernel) (pa_cons (pv 0) pa_nil)) (pe_globI (by rfl) T.g_MAX_TEXT) (nomark _)) (pe_one (pe_cmpR (cm_NotEq (K := K) hr.units) (pe_callC C_plain_text (hr.mono (by decide)) (by rfl) (pa_cons (pv 0) pa_nil)) pe_str (nomark _))))))), ?_⟩
    refine StF.run (R := R) (n := n) ?_ hj
    refine s_ret (m := n) (p := is (.bl (isPlainO x))) ?_ q
    cases x with
    | none =>
      have hv : NoStr K R.M v H := hv
      have hcal : EvP R n n (tCall (sp_is_value K) [] E0 (tCons (tVar 0) tNil)) (start N0_is_plain [v]) H (is (.bl false)) := ev_pure (post := fun x => is (.bl (isValL x))) none (ea_cons (ev_varP (p := noStr K) rfl hv) ea_nil) fun vs H1 _ hv => by
        obtain ⟨v, rfl, hv1⟩ := one hv
        exact ⟨v, rfl, hv1⟩
      exact ev_is (ev_andV (a := false) (b := false) hcal (fun z => nomatch z)) rfl
    | some l =>
      obtain ⟨rfl, ha, hl⟩ := hv
      have hcal : EvP R n n (tCall (sp_is_value K) [] E0 (tCons (tVar 0) tNil)) (start N0_is_plain [sv l]) H (is (.bl (isValL (some l)))) := ev_pure (post := fun x => is (.bl (isValL x))) (some l) (ea_cons (ev_var (v := sv l) rfl) ea_nil) fun vs H1 _ hv => by
        obtain ⟨v, rfl, hv1⟩ := one hv
        exact ⟨v, rfl, hv1, ha, hl⟩
      have hpl : EvP R n n (tCall sp_plain_text [] E0 (tCons (tVar 0) tNil)) (start N0_is_plain [sv l]) H (is (sv (plainL l))) := ev_pure (post := fun l => is (sv (plainL l))) l (ea_cons (ev_var (v := sv l) rfl) ea_nil) fun vs H1 _ hv => by
        obtain ⟨v, rfl, hv1⟩ := one hv
        exact ⟨by rw [show v = _ from hv1], ha, hl⟩
      refine ev_is (ev_andV hcal fun _ => ev_andV (ev_op2 (ev_lenS (ev_var rfl) (by omega)) ev_c fun H3 _ => rv_leI) fun _ => ev_op2 hpl (ev_str (l := []) (by decide +kernel)) fun H3 _ => rv_neS) ?_
      congr 1
      unfold isValL isPlainO isPlainL
      rw [show decide ((l.length : Int) ≤ 60) = decide (l.length ≤ 60) from decide_eq_decide.mpr (by omega)]
      dsimp only
      rw [Bool.and_assoc]
/-! ### escaped -/
abbrev N0_escaped : List Str := ["value", "found", "at", "sign", "is_end"]
theorem sc0_escaped : FnScope N0_escaped ["value"] (defScope s_escaped) := ⟨rfl, rfl, rfl, by decide +kernel, rfl, by decide +kernel, by decide +kernel⟩
-- slots: 0 value, 1 found, 2 at, 3 sign, 4 is_end
def sp_escaped : Sp := pureSp (fun (l : Codes) _ vs _ => vs = [sv l] ∧ l.length ≤ 20000) (fun l => is (sv (escL l)))
theorem escF_cons (n i c : Nat) (r : Codes) : escF n i (c :: r) = (if must n i c then [92] else []) ++ (c :: escF n (i + 1) r) := rfl
theorem escF_app (n : Nat) : ∀ (a b : Codes) (i : Nat), escF n i (a ++ b) = escF n i a ++ escF n (i + a.length) b
  | [], b, i => by simp [escF]
  | c :: r, b, i => by
    rw [List.cons_append, escF_cons, escF_cons, escF_app n r b (i + 1), List.length_cons, List.append_assoc, show i + 1 + r.length = i + (r.length + 1) by omega]
    rfl
theorem escF_len (n : Nat) : ∀ (a : Codes) (i : Nat), (escF n i a).length ≤ 2 * a.length
  | [], _ => Nat.zero_le _
  | c :: r, i => by
    unfold escF
    have := escF_len n r (i + 1)
    split <;> simp only [List.length_append, List.length_cons, List.length_nil] <;> omega
theorem escF_step {l : Codes} {r c : Nat} (h : l[r]? = some c) : escF l.length 0 (l.take (r + 1)) = (escF l.length 0 (l.take r) ++ (if must l.length r c then [92] else [])) ++ [c] := by
  have hl := (List.getElem?_eq_some_iff.mp h).1
  have e : l.take (r + 1) = l.take r ++ [c] := by
    rw [List.take_add_one, h]
    rfl
  rw [e, escF_app, List.length_take, Nat.min_eq_left (by omega), Nat.zero_add]
  rw [escF_cons, List.append_assoc]
  rfl
theorem c0_escaped (T : Tx K mg) : Cal P w K mg base 1 "escaped" ["value"] (sp_escaped) := by
  refine T.d_escaped.cal sc0_escaped (fun vs H Q E h => ?_) (fun _ _ _ _ _ _ us hl => match us, hl with | [_], _ => rfl) (fun f cdv A outer s H vs Q E hr h => ?_)
  · obtain ⟨R, n, l, _, ⟨rfl, _⟩, _⟩ := h
    rfl
  · obtain ⟨R, n, l, hj, ⟨rfl, hl⟩, q⟩ := h
    refine ⟨_, (pss_cons (ps_set (i := 1) sc0_escaped.nd rfl (by first | exact Or.inl rfl | exact Or.inr rfl) pe_str)
      (pss_cons (ps_for PassesOwn.never rfl (pi_enumA (K := K) (by rfl) T.b_enumerate (pa_cons (pv 0) pa_nil)) (pg_tupK (K := K) (n := 2) rfl (pgs_cons (pg_name (i := 2) sc0_escaped.nd rfl (by first | exact Or.inl rfl | exact Or.inr rfl)) (pgs_cons (pg_name (i := 3) sc0_escaped.nd rfl (by first | exact Or.inl rfl | exact Or.inr rfl)) pgs_nil)))
      (pss_cons (ps_set (i := 4) sc0_escaped.nd rfl (by first | exact Or.inl rfl | exact Or.inr rfl) (pe_or (pe_cmpR (cm_Eq (K := K) hr.units) (pv 2) pe_int (nomark _)) (pe_one (pe_cmpR (cm_Eq (K := K) hr.units) (pv 2) (pe_op op_sub (pe_callB (call_lenA (K := K)) (by rfl) T.b_len (by decide +kernel) (pa_cons (pv 0) pa_nil)) pe_int) (nomark _)))))
      (pss_one (ps_set (i := 1) sc0_escaped.nd rfl (by first | exact Or.inl rfl | exact Or.inr rfl) (pe_op (op_Add (K := K)) (pe_op (op_Add (K := K)) (pv 1) (pe_ifExp (PW.pt (pw_or (pt_cmpR (cm_In (K := K) (hu65 hr)) (pv 3) (pe_globS (by rfl) T.g_ESCAPED) (by rfl)) (pw_or1 (PW.pt (pw_and (pt_cmpR (cm_Eq (K := K) hr.units) (pv 3) pe_str (nomark _)) (pw_and1 (pt_val (pv 4)))))))) (pe_globS (by rfl) T.g_BACKSLASH) pe_str)) (pv 3))))))
      (pss_one (ps_ret (pv 1))))), ?_⟩
    refine StF.run (R := R) (n := n) ?_ hj
    refine q_asgV (m := n) (v := sv []) (ev_str (by decide +kernel)) ?_
    refine q_forE (a := l) (ev_var rfl) (fun r σ' => ∃ x y z, σ' = [some (sv l), some (sv (escF l.length 0 (l.take r))), x, y, z]) ⟨none, none, none, rfl⟩ (fun B r c σ' eb hc hI => ?_) (fun σ' hI => ?_)
    · obtain ⟨x, y, z, rfl⟩ := hI
      have hr := (List.getElem?_eq_some_iff.mp hc).1
      have hf := escF_len l.length (l.take r) 0
      rw [List.length_take, Nat.min_eq_left (by omega)] at hf
      refine q_asgV (m := n) (v := .bl (decide (r = 0 ∨ r + 1 = l.length))) (ev_is (ev_orV (ev_op2 (ev_var rfl) ev_c fun H3 _ => rv_eqI) fun _ => ev_op2 (ev_var rfl) (ev_op2 (ev_lenS (ev_var rfl) (by omega)) ev_c fun H3 _ => rv_subI) fun H3 _ => rv_eqI) ?_) ?_
      · congr 1
        by_cases h1 : r = 0
        · rw [decide_eq_true (show ((r : Nat) : Int) = 0 by omega), decide_eq_true (Or.inl h1)]
          rfl
        · rw [decide_eq_false (show ¬ ((r : Nat) : Int) = 0 by omega), Bool.false_or]
          exact decide_eq_decide.mpr (by omega)
      · refine s_asgV (m := n) (v := sv (escF l.length 0 (l.take (r + 1)))) ?_ fun H2 e2 => ⟨e2, _, _, _, rfl⟩
        rw [escF_step hc]
        refine ev_op2 (m := n) (x := sv (escF l.length 0 (l.take r) ++ (if must l.length r c then [92] else []))) (y := sv [c]) (ev_op2 (m := n) (x := sv (escF l.length 0 (l.take r))) (y := sv (if must l.length r c then [92] else [])) (ev_var rfl) ?_ fun H3 _ => rv_addS (by split <;> simp <;> omega)) (ev_var rfl) fun H3 _ => rv_addS (by split <;> simp <;> omega)
        refine ev_is (ev_ifV (b := must l.length r c) (v := sv [92]) (w := sv []) (et_is (et_or (et_test (ev_op2 (m := n) (x := sv [c]) (y := sv [44, 43, 61, 92]) (ev_var rfl) (ev_str (by decide +kernel)) fun H3 _ => rv_inS)) fun _ => et_and (et_test (ev_op2 (ev_var (v := sv [c]) rfl) (ev_str (l := [32]) (by decide +kernel)) fun H3 _ => rv_eqS)) fun _ => et_B (ev_var rfl)) ?_) (fun _ => ev_str (by decide +kernel)) (fun _ => ev_str (by decide +kernel))) ?_
        · unfold must
          congr 1
          · exact decide_eq_decide.mpr (by simp)
          · congr 1
            exact decide_eq_decide.mpr (by simp)
        · split <;> rfl
    · obtain ⟨x, y, z, rfl⟩ := hI
      refine s_ret (m := n) (p := is (sv (escL l))) (ev_is (ev_var rfl) ?_) q
      rw [List.take_of_length_le (Nat.le_refl _)]
      rfl
/-! ### value_at -/
abbrev N0_value_at : List Str := ["text", "begin", "found", "at"]
theorem sc0_value_at : FnScope N0_value_at ["text", "begin"] (defScope s_value_at) := ⟨rfl, rfl, rfl, by decide +kernel, rfl, by decide +kernel, by decide +kernel⟩
-- slots: 0 text, 1 begin, 2 found, 3 at
def valV (p : Codes) : V := match valP p with
  | some v => sv v
  | none => .non
def sp_value_at (K : PySem.W.Frag) : Sp := pureSp (fun (x : Codes × Nat) _ vs _ => vs = [sv x.1, .int (x.2 : Nat)] ∧ x.1.length ≤ 20000 ∧ x.2 ≤ x.1.length) (fun x => tupG K (· = [valV (cut2 (x.1.drop x.2)).1, .int ((x.2 + (cut2 (x.1.drop x.2)).1.length : Nat) : Int)]))
theorem fnd_len : ∀ (l : Codes), (fnd l).length ≤ l.length
  | [] => Nat.le_refl _
  | [c] => Nat.le_refl _
  | c :: d :: r => by
    unfold fnd
    have h1 := fnd_len r
    have h2 := fnd_len (d :: r)
    split <;> simp only [List.length_cons] at * <;> omega
theorem fnd_plain {c : Nat} (r : Codes) (h : c ≠ 92) : fnd (c :: r) = c :: fnd r := by
  cases r with
  | nil => rfl
  | cons d t => conv => lhs; unfold fnd
                rw [if_neg h]
theorem drop_at {l : Codes} {i c : Nat} (h : l[i]? = some c) : l.drop i = c :: l.drop (i + 1) := by
  obtain ⟨hl, e⟩ := List.getElem?_eq_some_iff.mp h
  rw [List.drop_eq_getElem_cons hl, e]
theorem c0_value_at (T : Tx K mg) : Cal P w K mg base 2 "value_at" ["text", "begin"] (sp_value_at K) := by
  have C_escaped := c0_escaped (P := P) (w := w) (base := base) T
  refine T.d_value_at.cal sc0_value_at (fun vs H Q E h => ?_) (fun _ _ _ _ _ _ us hl => match us, hl with | [_, _], _ => rfl) (fun f cdv A outer s H vs Q E hr h => ?_)
  · obtain ⟨R, n, x, _, ⟨rfl, _⟩, _⟩ := h
    rfl
  · obtain ⟨R, n, ⟨l, b⟩, hj, ⟨rfl, hl, hb⟩, q⟩ := h
    refine ⟨_, (pss_cons (ps_par (i := 2) (j := 3) (by rfl) sc0_value_at.nd rfl rfl (by decide) rfl rfl (pa_cons pe_str (pa_cons (pv 1) pa_nil)) (by rfl))
      (pss_cons (ps_while PassesOwn.never (PW.pt (pw_and (pt_cmpR cm_Lt (pv 3) (pe_callB (call_lenA (K := K)) (by rfl) T.b_len (by decide +kernel) (pa_cons (pv 0) pa_nil)) (nomark _)) (pw_and1 (pt_cmpR (cm_NotIn (K := K) (hu65 hr)) (pe_ix (ix_any (K := K)) (pv 0) (pv 3) (fun _ _ => rfl)) pe_str (by rfl)))))
      (pss_cons (ps_if (PW.pt (pw_and (pt_cmpR (cm_Eq (K := K) hr.units) (pe_ix (ix_any (K := K)) (pv 0) (pv 3) (fun _ _ => rfl)) (pe_globS (by rfl) T.g_BACKSLASH) (nomark _)) (pw_and1 (pt_cmpR cm_Lt (pe_op (op_Add (K := K)) (pv 3) pe_int) (pe_callB (call_lenA (K := K)) (by rfl) T.b_len (by decide +kernel) (pa_cons (pv 0) pa_nil)) (nomark _))))) (pss_one (ps_set (i := 3) sc0_value_at.nd rfl (by first | exact Or.inl rfl | exact Or.inr rfl) (pe_op (op_Add (K := K)) (pv 3) pe_int))) pss_nil)
      (pss_cons (ps_set (i := 2) sc0_value_at.nd rfl (by first | exact Or.inl rfl | exact Or.inr rfl) (pe_op (op_Add (K := K)) (pv 2) (pe_ix (ix_any (K := K)) (pv 0) (pv 3) (fun _ _ => rfl))))
      (pss_one (ps_set (i := 3) sc0_value_at.nd rfl (by first | exact Or.inl rfl | exact Or.inr rfl) (pe_op (op_Add (K := K)) (pv 3) pe_int))))))
      (pss_one (ps_ret (pe_tup (pa_cons (pe_ifExp (pt_cmpR (cm_Eq (K := K) hr.units) (pe_callC C_escaped (hr.mono (by decide)) (by rfl) (pa_cons (pv 2) pa_nil)) (pe_slice (sl_any (K := K)) (pv 0) (po_some (pv 1)) (po_some (pv 3))) (nomark _)) (pv 2) pe_non) (pa_cons (pv 3) pa_nil))))))), ?_⟩
    have hl : l.length ≤ 20000 := hl
    have hb : b ≤ l.length := hb
    refine StF.run (R := R) (n := n) ?_ hj
    have hpl : (cut2 (l.drop b)).1.length ≤ l.length - b := by
      have := congrArg List.length (cut2_app (l.drop b))
      rw [List.length_append, List.length_drop] at this
      omega
    have hfl := fnd_len (cut2 (l.drop b)).1
    refine q_parG (m := n) (F := fun v => v = sv []) (G := fun v => v = .int (b : Nat)) (ea_cons (EvP.asG (ev_str (l := []) (by decide +kernel)) rfl) (ea_cons (EvP.asG (ev_var rfl) rfl) ea_nil)) fun v w hv hw => ?_
    subst hv
    subst hw
    refine q_whileV (fun m σ' => ∃ (i : Nat) (f : Codes), σ' = [some (sv l), some (.int (b : Nat)), some (sv f), some (.int (i : Nat))] ∧ i ≤ l.length ∧ m = l.length - i ∧ b ≤ i ∧ f ++ fnd (cut2 (l.drop i)).1 = fnd (cut2 (l.drop b)).1 ∧ i + (cut2 (l.drop i)).1.length = b + (cut2 (l.drop b)).1.length) (l.length - b) ⟨b, [], rfl, hb, rfl, Nat.le_refl _, rfl, rfl⟩ fun B m σ' eb hW => ?_
    obtain ⟨i, f, rfl, hi, rfl, hbi, hf, hn⟩ := hW
    have hfL : f.length ≤ l.length := by
      have := congrArg List.length hf
      rw [List.length_append] at this
      omega
    -- behind the loop
    have fin : (cut2 (l.drop i)).1 = [] → StF R n (tRet (tTup (tCons (tIf (tTest (tOp (rEqU K) (tCall sp_escaped [] E0 (tCons (tVar 2) tNil)) (tSl (rSlU K) (tVar 0) (tPart (tVar 1)) (tPart (tVar 3))))) (tVar 2) (tC .non)) (tCons (tVar 3) tNil)))) { nx := fun _ H' => Q .non H', rt := Q } [some (sv l), some (.int (b : Nat)), some (sv f), some (.int (i : Nat))] B := fun h0 => by
      rw [h0] at hf hn
      have hf : f = fnd (cut2 (l.drop b)).1 := by rw [← hf]; exact (List.append_nil f).symm
      have hn : i = b + (cut2 (l.drop b)).1.length := hn
      have hs : sl l (some ((b : Nat) : Int)) (some ((i : Nat) : Int)) = (cut2 (l.drop b)).1 := by
        rw [sl_mid (by omega) (by omega) (by omega), Int.toNat_natCast, show (((i : Nat) : Int) - ((b : Nat) : Int)).toNat = (cut2 (l.drop b)).1.length by omega]
        have e : ((cut2 (l.drop b)).1 ++ (cut2 (l.drop b)).2).take (cut2 (l.drop b)).1.length = (cut2 (l.drop b)).1 := List.take_left' rfl
        rw [cut2_app] at e
        exact e
      refine s_ret (m := n) (p := tupG K (· = [valV (cut2 (l.drop b)).1, .int ((b + (cut2 (l.drop b)).1.length : Nat) : Int)])) (ev_tupV (vs := [valV (cut2 (l.drop b)).1, .int ((b + (cut2 (l.drop b)).1.length : Nat) : Int)]) (ea_cons (m := n) ?_ (ea_cons (ev_is (ev_var rfl) (by rw [← hn])) ea_nil)) (by show 2 ≤ 100000; decide)) fun v H2 e2 hv => q v H2 (R.trans eb e2) hv
      have hesc : EvP R n n (tCall sp_escaped [] E0 (tCons (tVar 2) tNil)) [some (sv l), some (.int (b : Nat)), some (sv f), some (.int (i : Nat))] B (is (sv (escL f))) := ev_pure (post := fun l => is (sv (escL l))) f (ea_cons (ev_var (v := sv f) rfl) ea_nil) fun vs H1 _ hv => by
        obtain ⟨v, rfl, hv1⟩ := one hv
        exact ⟨by rw [show v = _ from hv1], by omega⟩
      refine ev_is (ev_ifV (b := decide (escL f = (cut2 (l.drop b)).1)) (v := sv f) (w := .non) (et_test (ev_op2 (m := n) hesc (ev_is (ev_sl (m := n) (k := n) (p := is (sv l)) (ev_var rfl) (eo_some (ev_var rfl)) (eo_some (ev_var rfl)) fun x H3 _ hx => by rw [show x = sv l from hx]; exact rs_S (by omega)) (by rw [hs])) fun H3 _ => rv_eqS)) (fun _ => ev_var rfl) (fun _ => ev_c)) ?_
      unfold valV valP
      rw [← hf]
      by_cases z : escL f = (cut2 (l.drop b)).1
      · rw [decide_eq_true z, if_pos z]
        rfl
      · rw [decide_eq_false z, if_neg z]
        rfl
    by_cases hlt : i < l.length
    · have hc : l[i]? = some l[i] := List.getElem?_eq_getElem hlt
      generalize l[i] = c at hc
      have hd := drop_at hc
      have hix : ∀ (j : Nat) (d : Nat) (B' : Hp) (f' : Codes), l[j]? = some d → EvP R n n (tOp (rIx K) (tVar 0) (tVar 3)) [some (sv l), some (.int (b : Nat)), some (sv f'), some (.int (j : Nat))] B' (is (sv [d])) := fun j d B' f' hj => ev_op2 (m := n) (ev_var rfl) (ev_var rfl) fun H3 _ => rv_ixS (by omega) (at_nat hj)
      have htest : EvT R n n (tAnd (tTest (tOp rLtU (tVar 3) (tCB (rLenU K) (tCons (tVar 0) tNil)))) (tTest (tOp (rNotInU K) (tOp (rIx K) (tVar 0) (tVar 3)) (tC (.str ",+"))))) [some (sv l), some (.int (b : Nat)), some (sv f), some (.int (i : Nat))] B (· = !isSep c) := et_is (et_and (a := true) (et_is (et_test (ev_op2 (m := n) (ev_var rfl) (ev_lenS (ev_var rfl) (by omega)) fun H3 _ => rv_ltI)) (decide_eq_true (by omega))) fun _ => et_test (ev_op2 (m := n) (hix i c B f hc) (ev_str (l := [44, 43]) (by decide +kernel)) fun H3 _ => rv_niS)) (by
        rw [Bool.true_and]
        unfold isSep
        rw [← Bool.decide_or]
        congr 1
        exact decide_eq_decide.mpr (by simp))
      refine ⟨!isSep c, htest, fun hs => ?_, fun hs => fin ?_⟩
      · -- one turn
        have hs : ¬ isSep c = true := by
          intro z
          rw [z] at hs
          cases hs
        have tail : ∀ (j d : Nat), i ≤ j → l[j]? = some d → f ++ [d] ++ fnd (cut2 (l.drop (j + 1))).1 = fnd (cut2 (l.drop b)).1 → (j + 1) + (cut2 (l.drop (j + 1))).1.length = b + (cut2 (l.drop b)).1.length → StF R n (tSeq (tAsg (tOp (rAddU K) (tVar 2) (tOp (rIx K) (tVar 0) (tVar 3))) (gName 2)) (tAsg (tOp (rAddU K) (tVar 3) (tC (.int 1))) (gName 3))) (LE R n B { nx := tRet (tTup (tCons (tIf (tTest (tOp (rEqU K) (tCall sp_escaped [] E0 (tCons (tVar 2) tNil)) (tSl (rSlU K) (tVar 0) (tPart (tVar 1)) (tPart (tVar 3))))) (tVar 2) (tC .non)) (tCons (tVar 3) tNil))) { nx := fun _ H' => Q .non H', rt := Q }, rt := Q } fun σ2 => ∃ m', m' < l.length - i ∧ ∃ (i : Nat) (f : Codes), σ2 = [some (sv l), some (.int (b : Nat)), some (sv f), some (.int (i : Nat))] ∧ i ≤ l.length ∧ m' = l.length - i ∧ b ≤ i ∧ f ++ fnd (cut2 (l.drop i)).1 = fnd (cut2 (l.drop b)).1 ∧ i + (cut2 (l.drop i)).1.length = b + (cut2 (l.drop b)).1.length) [some (sv l), some (.int (b : Nat)), some (sv f), some (.int (j : Nat))] B := fun j d hij hj h1 h2 => by
          have hjl := (List.getElem?_eq_some_iff.mp hj).1
          refine q_asgV (m := n) (v := sv (f ++ [d])) (ev_op2 (m := n) (ev_var rfl) (hix j d B f hj) fun H3 _ => rv_addS (by simp; omega)) ?_
          refine s_asgV (m := n) (v := .int ((j + 1 : Nat) : Int)) (ev_is (ev_op2 (m := n) (ev_var rfl) ev_c fun H3 _ => rv_addI) (by congr 1)) fun H2 e2 => ⟨e2, l.length - (j + 1), by omega, j + 1, f ++ [d], rfl, by omega, rfl, by omega, h1, h2⟩
        have hlen1 : ∀ (H3 : Hp), EvT R n n (tTest (tOp rLtU (tOp (rAddU K) (tVar 3) (tC (.int 1))) (tCB (rLenU K) (tCons (tVar 0) tNil)))) [some (sv l), some (.int (b : Nat)), some (sv f), some (.int (i : Nat))] H3 (· = decide (i + 1 < l.length)) := fun H3 => et_is (et_test (ev_op2 (m := n) (ev_op2 (m := n) (ev_var rfl) ev_c fun H3 _ => rv_addI) (ev_lenS (ev_var rfl) (by omega)) fun H3 _ => rv_ltI)) (decide_eq_decide.mpr (by omega))
        refine q_whenB (m := n) (b := decide (c = 92) && decide (i + 1 < l.length)) (et_and (et_is (et_test (ev_op2 (m := n) (hix i c B f hc) (ev_str (l := [92]) (by decide +kernel)) fun H3 _ => rv_eqS)) (decide_eq_decide.mpr (by simp))) fun _ => hlen1 B) (fun hb2 => ?_) (fun hb2 => ?_)
        · rw [Bool.and_eq_true, decide_eq_true_eq, decide_eq_true_eq] at hb2
          obtain ⟨rfl, h2⟩ := hb2
          have hj : l[i + 1]? = some l[i + 1] := List.getElem?_eq_getElem h2
          generalize l[i + 1] = d at hj
          have hd2 := drop_at hj
          rw [hd, hd2, cut2_cons2, if_neg hs, if_pos rfl] at hf hn
          refine s_asgV (m := n) (v := .int ((i + 1 : Nat) : Int)) (ev_is (ev_op2 (m := n) (ev_var rfl) ev_c fun H3 _ => rv_addI) (by congr 1)) fun H2 e2 => tail (i + 1) d (by omega) hj ?_ ?_ H2 e2
          · rw [← hf, List.append_assoc]
            show _ = f ++ fnd (92 :: d :: _)
            conv => rhs; unfold fnd
            rw [if_pos rfl]
            rfl
          · simp only [List.length_cons] at hn
            omega
        · have h3 : (cut2 (l.drop i)).1 = c :: (cut2 (l.drop (i + 1))).1 ∧ fnd (c :: (cut2 (l.drop (i + 1))).1) = c :: fnd (cut2 (l.drop (i + 1))).1 := by
            by_cases h92 : c = 92
            · have hl2 : ¬ i + 1 < l.length := fun z => by
                rw [decide_eq_true h92, decide_eq_true z] at hb2
                cases hb2
              have hnil : l.drop (i + 1) = [] := List.drop_eq_nil_of_le (by omega)
              rw [hd, hnil, cut2_one, if_neg hs]
              exact ⟨rfl, rfl⟩
            · rw [hd, cut2_plain _ hs h92]
              exact ⟨rfl, fnd_plain _ h92⟩
          rw [h3.1] at hf hn
          refine tail i c (Nat.le_refl _) hc ?_ ?_
          · rw [← hf, h3.2, List.append_assoc]
            rfl
          · simp only [List.length_cons] at hn
            omega
      · have hs : isSep c = true := by
          cases z : isSep c with
          | true => rfl
          | false => rw [z] at hs; cases hs
        rw [hd]
        cases hr : l.drop (i + 1) with
        | nil => rw [cut2_one, if_pos hs]
        | cons d t => rw [cut2_cons2, if_pos hs]
    · refine ⟨false, et_is (et_and (a := false) (b := false) (et_is (et_test (ev_op2 (m := n) (ev_var rfl) (ev_lenS (ev_var rfl) (by omega)) fun H3 _ => rv_ltI)) (decide_eq_false (by omega))) (fun z => nomatch z)) rfl, (fun z => nomatch z), fun _ => fin ?_⟩
      have hnil : l.drop i = [] := List.drop_eq_nil_of_le (by omega)
      rw [hnil]
      rfl

end
end My
namespace My
open PySem PySem.Spec PyProof.Rows L2
section
variable {P : Program} [hP : OkP fileS P] {w : World} {K : PySem.W.Frag} {mg : Str → Option Value} {base : Heap}
/-! ### read_name -/
theorem fnd3_spec {l : Codes} {i : Nat} (hi : i ≤ l.length) : (61 ∉ l.drop i ∧ fnd3 l [61] (i : Nat) = -1) ∨ ∃ w a, l.drop i = w ++ 61 :: a ∧ 61 ∉ w ∧ fnd3 l [61] (i : Nat) = ((i + w.length : Nat) : Int) ∧ l.drop (i + w.length + 1) = a ∧ i + w.length + 1 ≤ l.length := by
  have hfi : PySem.fromIndex (SX.S l).length ((i : Nat) : Int) = i := by
    unfold PySem.fromIndex
    rw [if_neg (by omega)]
    omega
  have hget : ∀ v, v < l.length → (SX.S l).cps.getD v 0 = l.getD v 0 := fun v hv => by simp [SX.S]
  have hsl := SX.S_len l
  rcases StrLaws.find3_spec (SX.S l) 61 ((i : Nat) : Int) with ⟨h, hn⟩ | ⟨k, h, h1, h2, h3, h4⟩
  · refine .inl ⟨fun z => ?_, h⟩
    obtain ⟨j, hj, e⟩ := List.mem_iff_getElem.mp z
    rw [List.length_drop] at hj
    rw [List.getElem_drop] at e
    refine hn (i + j) (by rw [hfi]; omega) (by omega) ?_
    rw [hget _ (by omega), List.getD_eq_getElem?_getD, List.getElem?_eq_getElem (by omega), e]
    rfl
  · rw [hfi] at h1 h4
    rw [hsl] at h2
    refine .inr ⟨(l.drop i).take (k - i), l.drop (k + 1), ?_, ?_, ?_, ?_, ?_⟩
    · have e : l.drop k = 61 :: l.drop (k + 1) := by
        rw [List.drop_eq_getElem_cons h2]
        congr 1
        rw [hget k h2, List.getD_eq_getElem?_getD, List.getElem?_eq_getElem h2] at h3
        exact h3
      rw [← e]
      have e2 : l.drop k = (l.drop i).drop (k - i) := by rw [List.drop_drop]; congr 1; omega
      rw [e2, List.take_append_drop]
    · intro z
      obtain ⟨j, hj, e⟩ := List.mem_iff_getElem.mp z
      rw [List.length_take, List.length_drop] at hj
      rw [List.getElem_take, List.getElem_drop] at e
      refine h4 (i + j) (by omega) (by omega) ?_
      rw [hget _ (by omega), List.getD_eq_getElem?_getD, List.getElem?_eq_getElem (by omega), e]
      rfl
    · rw [List.length_take, List.length_drop, Nat.min_eq_left (by omega), show i + (k - i) = k by omega]
      exact h
    · rw [List.length_take, List.length_drop, Nat.min_eq_left (by omega), show i + (k - i) = k by omega]
    · rw [List.length_take, List.length_drop, Nat.min_eq_left (by omega)]
      omega
theorem take_no61 : ∀ {w : Codes} (_ : 61 ∉ w) (a : Codes), (w ++ 61 :: a).takeWhile (fun c => !decide (c = 61)) = w ∧ (w ++ 61 :: a).dropWhile (fun c => !decide (c = 61)) = 61 :: a
  | [], _, a => ⟨rfl, rfl⟩
  | c :: r, hw, a => by
    have h1 : (!decide (c = 61)) = true := by rw [decide_eq_false fun e => hw (by rw [e]; exact List.mem_cons_self ..)]; rfl
    obtain ⟨e1, e2⟩ := take_no61 (w := r) (fun x => hw (List.mem_cons_of_mem _ x)) a
    refine ⟨?_, ?_⟩
    · show ((c :: (r ++ 61 :: a)).takeWhile _) = _
      rw [List.takeWhile_cons_of_pos (p := fun c => !decide (c = 61)) h1, e1]
    · show ((c :: (r ++ 61 :: a)).dropWhile _) = _
      rw [List.dropWhile_cons_of_pos (p := fun c => !decide (c = 61)) h1, e2]
theorem pairP_at {w : Codes} (h : 61 ∉ w) (a : Codes) : pairP (w ++ 61 :: a) = if isWordL w then (match valP (cut2 a).1 with
      | some v => if isPlainL v then some ((w, v), (cut2 a).2) else none
      | none => none) else none := by
  unfold pairP
  obtain ⟨e1, e2⟩ := take_no61 h a
  rw [if_pos (by simp), e1, e2]
  rfl
theorem pairP_no {r : Codes} (h : 61 ∉ r) : pairP r = none := by
  unfold pairP
  rw [if_neg h]
theorem readP_dup {ls : List (List Pair)} {ps : List Pair} {w a : Codes} (h : 61 ∉ w) (hd : w ∈ ps.map Prod.fst) : readP ls ps (w ++ 61 :: a) = none := by
  have hp := pairP_at h a
  cases hq : pairP (w ++ 61 :: a) with
  | none => exact readP_none hq
  | some q =>
    obtain ⟨q, r⟩ := q
    have e : q.1 = w := by
      rw [hq] at hp
      split at hp
      · split at hp
        · split at hp
          · cases hp; rfl
          · cases hp
        · cases hp
      · cases hp
    cases r with
    | nil => rw [readP_end hq, if_pos (by rw [e]; exact hd)]
    | cons c r => rw [readP_more hq, if_pos (by rw [e]; exact hd)]
theorem fnd_mem : ∀ (l : Codes), ∀ c ∈ fnd l, c ∈ l
  | [], c, h => h
  | [d], c, h => h
  | d :: e :: r, c, h => by
    unfold fnd at h
    split at h
    · rcases List.mem_cons.mp h with rfl | h
      · simp
      · have := fnd_mem r c h
        simp [this]
    · rcases List.mem_cons.mp h with rfl | h
      · simp
      · exact List.mem_cons_of_mem _ (fnd_mem (e :: r) c h)
theorem asc_sub {a b : Codes} (h : ∀ c ∈ a, c ∈ b) (hb : asc b) : asc a := by
  unfold asc at *
  rw [List.all_eq_true] at *
  exact fun c hc => hb c (h c hc)
abbrev N0_read_name : List Str := ["text", "leaves", "pairs", "at", "equals", "word", "pair", "value", "is_short", "leaf"]
theorem sc0_read_name : FnScope N0_read_name ["text"] (defScope s_read_name) := ⟨rfl, rfl, rfl, by decide +kernel, rfl, by decide +kernel, by decide +kernel⟩
-- slots: 0 text, 1 leaves, 2 pairs, 3 at, 4 equals, 5 word, 6 pair, 7 value, 8 is_short, 9 leaf
def nameO (K : PySem.W.Frag) : Option (List (List Pair)) → SP
  | none => is .non
  | some ls => nameSP K ls
def readO : Option Codes → Option (List (List Pair))
  | none => none
  | some l => lawName l
def sp_read_name (K : PySem.W.Frag) : Sp := pureSp (fun (x : Option Codes) M vs H => ∃ v, vs = [v] ∧ tOrN K x M v H) (fun x => nameO K (readO x))
theorem c0_read_name (T : Tx K mg) : Cal P w K mg base 3 "read_name" ["text"] (sp_read_name K) := by
  have C_is_word := c0_is_word (P := P) (w := w) (base := base) T
  have C_value_at := c0_value_at (P := P) (w := w) (base := base) T
  have C_is_plain := c0_is_plain (P := P) (w := w) (base := base) T
  refine T.d_read_name.cal sc0_read_name (fun vs H Q E h => ?_) (fun _ _ _ _ _ _ us hl => match us, hl with | [_], _ => rfl) (fun f cdv A outer s H vs Q E hr h => ?_)
  · obtain ⟨R, n, x, _, ⟨v, rfl, _⟩, _⟩ := h
    rfl
  · obtain ⟨R, n, x, hj, ⟨v, rfl, hv⟩, q⟩ := h
    refine ⟨_, (pss_cons (ps_if (pt_not (pt_val (pe_callB (call_isiA (K := K)) (by rfl) T.b_isinstance (by decide +kernel) (pa_cons (pv 0) (pa_cons (pe_bty (T := "str") (by rfl) T.b_str (by decide +kernel)) pa_nil))))) (pss_one (ps_ret pe_non)) pss_nil)
      (pss_cons (ps_set (i := 1) sc0_read_name.nd rfl (by first | exact Or.inl rfl | exact Or.inr rfl) (pe_lst pa_nil))
      (pss_cons (ps_set (i := 2) sc0_read_name.nd rfl (by first | exact Or.inl rfl | exact Or.inr rfl) (pe_lst pa_nil))
      (pss_cons (ps_set (i := 3) sc0_read_name.nd rfl (by first | exact Or.inl rfl | exact Or.inr rfl) pe_int)
      (pss_cons (ps_while PassesOwn.never (PW.pt (pw_and (pt_cmpR (cm_NotEq (K := K) hr.units) (pv 0) pe_str (nomark _)) (pw_and1 (pt_cmpR cm_LtE (pv 3) (pe_callB (call_lenA (K := K)) (by rfl) T.b_len (by decide +kernel) (pa_cons (pv 0) pa_nil)) (nomark _)))))
      (pss_cons (ps_set (i := 4) sc0_read_name.nd rfl (by first | exact Or.inl rfl | exact Or.inr rfl) (pe_bmK (K := K) PySem.F.plainAttrs_str PySem.F.slot_str_find PySem.F.type_str_find mt_findA (pv 0) (pa_cons pe_str (pa_cons (pv 3) pa_nil))))
      (pss_cons (ps_set (i := 5) sc0_read_name.nd rfl (by first | exact Or.inl rfl | exact Or.inr rfl) (pe_ifExp (pt_cmpR cm_GtE (pv 4) pe_int (nomark _)) (pe_slice (sl_any (K := K)) (pv 0) (po_some (pv 3)) (po_some (pv 4))) pe_str))
      (pss_cons (ps_if (PW.pt (pw_or (pt_not (pt_val (pe_callC C_is_word (hr.mono (by decide)) (by rfl) (pa_cons (pv 5) pa_nil)))) (pw_or1 (pt_cmpR (cm_In (K := K) (hu65 hr)) (pv 5) (pe_lc (own := [("pair", 6)]) (by rfl) sc0_read_name.nd (pi_any (K := K) (pv 2)) (blkOk_by (own := [("pair", 6)]) (N := N0_read_name) (sc := defScope s_read_name) (by decide +kernel)) (fun _ _ _ _ _ => (pg_name (i := 6) sc0_read_name.nd rfl (by first | exact Or.inl rfl | exact Or.inr rfl))) (fun _ _ _ _ _ => pts_nil) (fun _ _ _ _ _ => (pe_ix (ix_any (K := K)) (pv 6) pe_int (fun _ _ => rfl)))) (by rfl))))) (pss_one (ps_ret pe_non)) pss_nil)
      (pss_cons (ps_asg (pe_callC C_value_at (hr.mono (by decide)) (by rfl) (pa_cons (pv 0) (pa_cons (pe_op (op_Add (K := K)) (pv 4) pe_int) pa_nil))) (pg_tupK (K := K) (n := 2) rfl (pgs_cons (pg_name (i := 7) sc0_read_name.nd rfl (by first | exact Or.inl rfl | exact Or.inr rfl)) (pgs_cons (pg_name (i := 3) sc0_read_name.nd rfl (by first | exact Or.inl rfl | exact Or.inr rfl)) pgs_nil))))
      (pss_cons (ps_if (pt_not (pt_val (pe_callC C_is_plain (hr.mono (by decide)) (by rfl) (pa_cons (pv 7) pa_nil)))) (pss_one (ps_ret pe_non)) pss_nil)
      (pss_cons (ps_expr (pe_bmK (K := K) PySem.F.plainAttrs_list PySem.F.slot_list_append PySem.F.type_list_append mt_append (pv 2) (pa_cons (pe_tup (pa_cons (pv 5) (pa_cons (pv 7) pa_nil))) pa_nil)))
      (pss_cons (ps_if (PW.pt (pw_or (pt_cmpR (cm_Eq (K := K) hr.units) (pv 3) (pe_callB (call_lenA (K := K)) (by rfl) T.b_len (by decide +kernel) (pa_cons (pv 0) pa_nil)) (nomark _)) (pw_or1 (pt_cmpR (cm_Eq (K := K) hr.units) (pe_ix (ix_any (K := K)) (pv 0) (pv 3) (fun _ _ => rfl)) pe_str (nomark _))))) (pss_cons (ps_expr (pe_bmK (K := K) PySem.F.plainAttrs_list PySem.F.slot_list_append PySem.F.type_list_append mt_append (pv 1) (pa_cons (pe_callTy (call_tupleA (K := K)) (by rfl) T.b_tuple (by decide +kernel) (pa_cons (pv 2) pa_nil)) pa_nil)))
      (pss_one (ps_set (i := 2) sc0_read_name.nd rfl (by first | exact Or.inl rfl | exact Or.inr rfl) (pe_lst pa_nil)))) pss_nil)
      (pss_one (ps_set (i := 3) sc0_read_name.nd rfl (by first | exact Or.inl rfl | exact Or.inr rfl) (pe_op (op_Add (K := K)) (pv 3) pe_int)))))))))))
      (pss_cons (ps_set (i := 8) sc0_read_name.nd rfl (by first | exact Or.inl rfl | exact Or.inr rfl) (pe_and (pe_cmpR cm_LtE (pe_callB (call_lenA (K := K)) (by rfl) T.b_len (by decide +kernel) (pa_cons (pv 1) pa_nil)) (pe_globI (by rfl) T.g_MAX_LEAVES) (nomark _)) (pe_one (pe_callB (call_allA (K := K)) (by rfl) T.b_all (by decide +kernel) (pa_cons (pe_lc (own := [("leaf", 9)]) (by rfl) sc0_read_name.nd (pi_any (K := K) (pv 1)) (blkOk_by (own := [("leaf", 9)]) (N := N0_read_name) (sc := defScope s_read_name) (by decide +kernel)) (fun _ _ _ _ _ => (pg_name (i := 9) sc0_read_name.nd rfl (by first | exact Or.inl rfl | exact Or.inr rfl))) (fun _ _ _ _ _ => pts_nil) (fun _ _ _ _ _ => (pe_cmpR cm_LtE (pe_callB (call_lenA (K := K)) (by rfl) T.b_len (by decide +kernel) (pa_cons (pv 9) pa_nil)) (pe_globI (by rfl) T.g_MAX_PAIRS) (nomark _)))) pa_nil)))))
      (pss_one (ps_ret (pe_ifExp (PW.pt (pw_and (pt_val (pv 8)) (pw_and1 (pt_cmpR (cm_Eq (K := K) hr.units) (pv 2) (pe_lst pa_nil) (nomark _))))) (pe_callTy (call_tupleA (K := K)) (by rfl) T.b_tuple (by decide +kernel) (pa_cons (pv 1) pa_nil)) pe_non))))))))), ?_⟩
    refine StF.run (R := R) (n := n) ?_ hj
    cases x with
    | none =>
      have hv : NoStr K R.M v H := hv
      refine q_whenB (m := n) (b := true) (et_not (et_B (ev_isNoStr (ev_varP (p := noStr K) rfl hv)))) (fun _ => ?_) (fun z => nomatch z)
      exact s_ret (m := n) (p := is .non) ev_c q
    | some l =>
      obtain ⟨rfl, ha, hl⟩ := hv
      refine q_whenB (m := n) (b := false) (et_not (et_B (ev_isStr (ev_var rfl)))) (fun z => nomatch z) (fun _ => ?_)
      have qn : lawName l = none → ∀ H2, R.ok n H H2 → Q .non H2 := fun hz H2 e2 => q .non H2 e2 (by
        show (nameO K (lawName l)).P R.M V.non H2
        rw [hz]
        rfl)
      -- the two lists
      refine StF.seq (s_asgE fun L H1 e1 hL => ?_)
      have j1 : R.J n (upd H1 L (.lst [])) := R.put e1.1 (R.fresh e1.1 hL)
      have l0 : H L = none := old_none e1 hL
      refine StF.run (R := R) (n := n) (H := upd H1 L (.lst [])) ?_ j1
      refine StF.seq (s_asgE fun P0 H2 e2 hP => ?_)
      have hLx : H2 L = some (.lst []) := e2.2 L _ (R.fresh e1.1 hL) upd_same
      have pr2 : pres R.M H H2 := (pres_upd0 e1.2 l0).trans e2.2
      have p0 : H P0 = none := old_none (R := R) (n := n) ⟨e2.1, pr2⟩ hP
      have neLP : L ≠ P0 := fun z => by rw [← z, hLx] at hP; cases hP
      have st0 : RdSt R n H L P0 [] [] [] [] (upd H2 P0 (.lst [])) := ⟨hj, R.put e2.1 (R.fresh e2.1 hP), pres_upd0 pr2 p0, neLP, l0, p0, by rw [upd_ne neLP]; exact hLx, upd_same, .nil, .nil⟩
      refine StF.run (R := R) (n := n) (H := upd H2 P0 (.lst [])) ?_ st0.J
      refine q_asgV (m := n) (v := .int ((0 : Nat) : Int)) ev_c ?_
      refine q_whileH (fun m σ' H' => ∃ (i : Nat) (P1 : Addr) (xs ys : List V) (ls : List (List Pair)) (ps : List Pair) (e4 e5 e7 : Option V), σ' = [some (sv l), some (.ref L), some (.ref P1), some (.int (i : Nat)), e4, e5, none, e7, none, none] ∧ RdSt R n H L P1 xs ys ls ps H' ∧ m = l.length + 1 - i ∧ ls.length ≤ i ∧ ps.length ≤ i ∧ i ≤ l.length + 1 ∧ ((l = [] ∧ ls = [] ∧ ps = []) ∨ (l ≠ [] ∧ i ≤ l.length ∧ readP ls ps (l.drop i) = lawName l) ∨ (l ≠ [] ∧ i = l.length + 1 ∧ ps = [] ∧ (if shortL ls then some ls else none) = lawName l))) (l.length + 1) (fun H3 e3 => ⟨0, P0, [], [], [], [], none, none, none, rfl, st0.step e3, rfl, Nat.le_refl _, Nat.le_refl _, Nat.zero_le _, ?_⟩) fun m σ' B hW => ?_
      · by_cases z : l = []
        · exact .inl ⟨z, rfl, rfl⟩
        · exact .inr (.inl ⟨z, Nat.zero_le _, read_law z⟩)
      obtain ⟨i, P1, xs, ys, ls, ps, e4, e5, e7, rfl, st, rfl, hls, hps, hi, hc⟩ := hW
      have hxs : xs.length = ls.length := st.fl.length
      have hys : ys.length = ps.length := st.fp.length
      refine ⟨st.J, !decide (l = []) && decide (i ≤ l.length), et_and (et_test (ev_op2 (ev_var rfl) (ev_str (l := []) (by decide +kernel)) fun H3 _ => rv_neS)) (fun _ => et_is (et_test (ev_op2 (m := n) (ev_var rfl) (ev_lenS (ev_var rfl) (by omega)) fun H3 _ => rv_leI)) (decide_eq_decide.mpr (by omega))), fun hb => ?_, fun hb => ?_⟩
      · -- a turn
        rw [Bool.and_eq_true, decide_eq_true_eq] at hb
        have hi2 : i ≤ l.length := hb.2
        have hne : l ≠ [] := fun z => by rw [decide_eq_true z] at hb; exact absurd hb.1 (by decide)
        have hrd : readP ls ps (l.drop i) = lawName l := by
          rcases hc with ⟨z, _⟩ | ⟨_, _, z⟩ | ⟨_, z, _⟩
          · exact absurd z hne
          · exact z
          · omega
        have bad : readP ls ps (l.drop i) = none → ∀ (ex : L2.St) (D' : Ends), D'.rt = Q → StF R n (tRet (tC .non)) D' ex B := fun hz ex D' hD => s_ret (m := n) (p := is .non) ev_c fun v H3 e3 hv => by
          rw [hD, show v = .non from hv]
          exact qn (hrd.symm.trans hz) H3 ⟨e3.1, st.pr.trans e3.2⟩
        have hword : ∀ (wd : Codes) (x4 x7 : Option V), wd.length ≤ 20000 → EvT R n n (tOr (tNot (tB (tCall sp_is_word [] E0 (tCons (tVar 5) tNil)))) (tTest (tOp (rInU K) (tVar 5) (tLc (iAny K (tVar 2)) (gName 6) tYes (tOp (rIx K) (tVar 6) (tC (.int 0))) [6])))) [some (sv l), some (.ref L), some (.ref P1), some (.int (i : Nat)), x4, some (sv wd), none, x7, none, none] B (· = (!isWordL wd || decide (wd ∈ ps.map Prod.fst))) := fun wd x4 x7 hwl => by
          refine et_or (et_not (et_B ?_)) fun _ => et_test (ev_inT (m := n) (ev_var rfl) ?_)
          · exact ev_pure (post := fun l => is (.bl (isWordL l))) wd (ea_cons (ev_var (v := sv wd) rfl) ea_nil) fun vs H1 _ hv => by
              obtain ⟨v, rfl, hv1⟩ := one hv
              exact ⟨by rw [show v = _ from hv1], hwl⟩
          · have hlst : EvP R n n (tVar 2) [some (sv l), some (.ref L), some (.ref P1), some (.int (i : Nat)), x4, some (sv wd), none, x7, none, none] B (lstP (pairSP K) ps) := ev_varP rfl ⟨P1, ys, rfl, ⟨st.hP, st.mP⟩, Paired_imp (fun _ _ z => z.sp st.j0) st.fp⟩
            have h2 := ev_lcQ (te := tOp (rIx K) (tVar 6) (tC (.int 0))) (vs := [6]) (j := 6) (fun q : Pair => sv q.1) ([], []) (it_lstP (K := K) hlst) (by omega) (fun x => rfl) (fun R' H' a x ex _ hx => by
              obtain ⟨T, ws, rfl, hT, rfl⟩ := hx
              exact ev_op2 (m := n) (ev_var (v := .ref T) rfl) ev_c fun H3 e3 => rv_ixT (hT.st e3.2).sq rfl)
            refine ev_is2 h2 ?_
            rw [List.map_map]
            rfl
        refine q_asgV (m := n) (v := .int (fnd3 l [61] (i : Nat))) (ev_find3 (ev_var rfl) (ev_str (l := [61]) (by decide +kernel)) (ev_var rfl)) ?_
        rcases fnd3_spec hi2 with ⟨hno, hf⟩ | ⟨w, a, hw, hw61, hf, hda, hka⟩
        · -- no equals sign
          rw [hf]
          refine q_asgV (m := n) (v := sv []) (ev_ifB (m := n) (b := false) (et_is (et_test (ev_op2 (m := n) (ev_var rfl) ev_c fun H3 _ => rv_geI)) (by decide)) (fun z => nomatch z) (fun _ => ev_str (by decide +kernel))) ?_
          exact q_whenB (m := n) (et_is (hword [] _ _ (by decide)) (show (!isWordL [] || _) = true from rfl)) (fun _ => bad (readP_none (pairP_no hno)) _ _ rfl) (fun z => nomatch z)
        · rw [hf]
          have hsl : sl l (some ((i : Nat) : Int)) (some ((i + w.length : Nat) : Int)) = w := by
            rw [sl_mid (by omega) (by omega) (by omega), Int.toNat_natCast, show (((i + w.length : Nat) : Int) - ((i : Nat) : Int)).toNat = w.length by omega, hw]
            exact List.take_left' rfl
          have hwl : w.length ≤ l.length := by omega
          refine q_asgV (m := n) (v := sv w) (ev_ifB (m := n) (b := true) (et_is (et_test (ev_op2 (m := n) (ev_var rfl) ev_c fun H3 _ => rv_geI)) (decide_eq_true (by omega))) (fun _ => ev_is (ev_sl (m := n) (k := n) (p := is (sv l)) (ev_var rfl) (eo_some (ev_var rfl)) (eo_some (ev_var rfl)) fun x H3 _ hx => by rw [show x = sv l from hx]; exact rs_S (by omega)) (by rw [hsl])) (fun z => nomatch z)) ?_
          refine q_whenB (m := n) (hword w _ _ (by omega)) (fun hb2 => bad ?_ _ _ rfl) (fun hb2 => ?_)
          · rw [hw]
            rw [Bool.or_eq_true] at hb2
            rcases hb2 with z | z
            · refine readP_none ?_
              rw [pairP_at hw61, if_neg]
              intro z2
              rw [z2] at z
              cases z
            · exact readP_dup hw61 (of_decide_eq_true z)
          · rw [Bool.or_eq_false_iff] at hb2
            have hwd : isWordL w = true := by
              cases z : isWordL w with
              | true => rfl
              | false => rw [z] at hb2; cases hb2.1
            have hdup : w ∉ ps.map Prod.fst := of_decide_eq_false hb2.2
            have hpp := pairP_at hw61 a
            rw [if_pos hwd] at hpp
            -- the value
            have happ := cut2_app a
            have halen : a.length = l.length - (i + w.length + 1) := by rw [← hda, List.length_drop]
            have hplen : (cut2 a).1.length + (cut2 a).2.length = a.length := by rw [← List.length_append, happ]
            have hdrop : l.drop (i + w.length + 1 + (cut2 a).1.length) = (cut2 a).2 := by
              have e : ((cut2 a).1 ++ (cut2 a).2).drop (cut2 a).1.length = (cut2 a).2 := List.drop_left' rfl
              rw [cut2_app] at e
              rw [← List.drop_drop, hda]
              exact e
            generalize hp : (cut2 a).1 = p at *
            generalize hr : (cut2 a).2 = r at *
            have hval : EvP R n n (tCall (sp_value_at K) [] E0 (tCons (tVar 0) (tCons (tOp (rAddU K) (tVar 4) (tC (.int 1))) tNil))) [some (sv l), some (.ref L), some (.ref P1), some (.int (i : Nat)), some (.int ((i + w.length : Nat) : Int)), some (sv w), none, e7, none, none] B (tupG K (· = [valV p, .int ((i + w.length + 1 + p.length : Nat) : Int)])) := by
              have hadd : EvP R n n (tOp (rAddU K) (tVar 4) (tC (.int 1))) [some (sv l), some (.ref L), some (.ref P1), some (.int (i : Nat)), some (.int ((i + w.length : Nat) : Int)), some (sv w), none, e7, none, none] B (is (.int ((i + w.length + 1 : Nat) : Int))) := ev_is (ev_op2 (m := n) (ev_var rfl) ev_c fun H3 _ => rv_addI) (by congr 1)
              have h3 : EvP R n n (tCall (sp_value_at K) [] E0 (tCons (tVar 0) (tCons (tOp (rAddU K) (tVar 4) (tC (.int 1))) tNil))) [some (sv l), some (.ref L), some (.ref P1), some (.int (i : Nat)), some (.int ((i + w.length : Nat) : Int)), some (sv w), none, e7, none, none] B (tupG K (· = [valV (cut2 (l.drop (i + w.length + 1))).1, .int ((i + w.length + 1 + (cut2 (l.drop (i + w.length + 1))).1.length : Nat) : Int)])) := ev_pure (post := fun x : Codes × Nat => tupG K (· = [valV (cut2 (x.1.drop x.2)).1, .int ((x.2 + (cut2 (x.1.drop x.2)).1.length : Nat) : Int)])) (l, i + w.length + 1) (ea_cons (ev_var (v := sv l) rfl) (ea_cons hadd ea_nil)) fun vs H1 _ hv => by
                obtain ⟨v, u, rfl, hv1, hv2⟩ := two hv
                exact ⟨by rw [show v = _ from hv1, show u = _ from hv2], hl, hka⟩
              rw [hda, hp] at h3
              exact h3
            refine q_asgP (m := n) (u := valV p) (w := .int ((i + w.length + 1 + p.length : Nat) : Int)) hval ?_
            have hplain : EvP R n n (tCall (sp_is_plain K) [] E0 (tCons (tVar 7) tNil)) [some (sv l), some (.ref L), some (.ref P1), some (.int ((i + w.length + 1 + p.length : Nat) : Int)), some (.int ((i + w.length : Nat) : Int)), some (sv w), none, some (valV p), none, none] B (is (.bl (isPlainO (valP p)))) := ev_pure (post := fun x => is (.bl (isPlainO x))) (valP p) (ea_cons (ev_var (v := valV p) rfl) ea_nil) fun vs H1 _ hv => by
              obtain ⟨v, rfl, hv1⟩ := one hv
              refine ⟨v, rfl, ?_⟩
              rw [show v = _ from hv1]
              unfold valV
              cases hz : valP p with
              | none => exact .inl rfl
              | some u =>
                have hu : u = fnd p := by
                  unfold valP at hz
                  split at hz
                  · cases hz; rfl
                  · cases hz
                have hpl : ∀ c ∈ p, c ∈ l := fun c hc => by
                  have h1 : c ∈ a := by rw [← happ]; exact List.mem_append_left _ hc
                  rw [← hda] at h1
                  exact List.mem_of_mem_drop h1
                refine ⟨rfl, asc_sub (fun c hc => hpl c (fnd_mem p c (by rw [← hu]; exact hc))) ha, ?_⟩
                have := fnd_len p
                rw [hu]
                omega
            refine q_whenB (m := n) (et_not (et_B hplain)) (fun hb3 => bad ?_ _ _ rfl) (fun hb3 => ?_)
            · rw [hw]
              refine readP_none ?_
              rw [hpp]
              cases hz : valP p with
              | none => rfl
              | some u =>
                dsimp only
                rw [if_neg]
                intro z
                rw [hz] at hb3
                have hb3 : (!isPlainL u) = true := hb3
                rw [z] at hb3
                cases hb3
            · have hpo : isPlainO (valP p) = true := by
                cases z : isPlainO (valP p) with
                | true => rfl
                | false => rw [z] at hb3; cases hb3
              cases hz : valP p with
              | none => rw [hz] at hpo; cases hpo
              | some u =>
                rw [hz] at hpo hpp
                have hpo : isPlainL u = true := hpo
                dsimp only at hpp
                rw [if_pos hpo, ← hw] at hpp
                have hvv : valV p = sv u := by unfold valV; rw [hz]
                rw [hvv]
                refine StF.seq (s_appT (vs := [sv w, sv u]) st.hP st.mP rfl (ea_cons (m := n) (ev_var rfl) (ea_cons (ev_var rfl) ea_nil)) (by omega) (by show 2 ≤ 100000; decide) fun T H3 e3 hT => ?_)
                have st2 : RdSt R n H L P1 xs (ys ++ [.ref T]) ls (ps ++ [(w, u)]) (upd (upd H3 T (.tup [sv w, sv u])) P1 (.lst (ys ++ [.ref T]))) := (st.step e3).pair hT (w, u)
                refine StF.run (R := R) (n := n) (H := upd (upd H3 T (.tup [sv w, sv u])) P1 (.lst (ys ++ [.ref T]))) ?_ st2.J
                generalize upd (upd H3 T (.tup [sv w, sv u])) P1 (.lst (ys ++ [.ref T])) = B2 at st2 ⊢
                have hat : i + w.length + 1 + p.length ≤ l.length := by omega
                generalize hat2 : i + w.length + 1 + p.length = at2 at *
                have hlenE : EvP R n n (tCB (rLenU K) (tCons (tVar 0) tNil)) [some (sv l), some (.ref L), some (.ref P1), some (.int ((at2 : Nat) : Int)), some (.int ((i + w.length : Nat) : Int)), some (sv w), none, some (sv u), none, none] B2 (is (.int l.length)) := ev_lenS (ev_var rfl) (by omega)
                have hinc : ∀ (P2 : Addr) (B3 : Hp), EvP R n n (tOp (rAddU K) (tVar 3) (tC (.int 1))) [some (sv l), some (.ref L), some (.ref P2), some (.int ((at2 : Nat) : Int)), some (.int ((i + w.length : Nat) : Int)), some (sv w), none, some (sv u), none, none] B3 (is (.int ((at2 + 1 : Nat) : Int))) := fun P2 B3 => ev_is (ev_op2 (m := n) (ev_var rfl) ev_c fun H3 _ => rv_addI) (by congr 1)
                have htest : ∃ b : Bool, EvT R n n (tOr (tTest (tOp (rEqU K) (tVar 3) (tCB (rLenU K) (tCons (tVar 0) tNil)))) (tTest (tOp (rEqU K) (tOp (rIx K) (tVar 0) (tVar 3)) (tC (.str ","))))) [some (sv l), some (.ref L), some (.ref P1), some (.int ((at2 : Nat) : Int)), some (.int ((i + w.length : Nat) : Int)), some (sv w), none, some (sv u), none, none] B2 (· = b) ∧ (b = true → ((l ≠ [] ∧ at2 + 1 ≤ l.length ∧ readP (ls ++ [ps ++ [(w, u)]]) [] (l.drop (at2 + 1)) = lawName l) ∨ (l ≠ [] ∧ at2 + 1 = l.length + 1 ∧ ([] : List Pair) = [] ∧ (if shortL (ls ++ [ps ++ [(w, u)]]) then some (ls ++ [ps ++ [(w, u)]]) else none) = lawName l))) ∧ (b = false → l ≠ [] ∧ at2 + 1 ≤ l.length ∧ readP ls (ps ++ [(w, u)]) (l.drop (at2 + 1)) = lawName l) := by
                  cases hrr : r with
                  | nil =>
                    rw [hrr] at hpp hplen
                    have hend : at2 = l.length := by simp only [List.length_nil] at hplen; omega
                    refine ⟨true, et_is (et_or (a := true) (b := true) (et_is (et_test (ev_op2 (m := n) (ev_var rfl) hlenE fun H3 _ => rv_eqI)) (decide_eq_true (by omega))) (fun z => nomatch z)) rfl, fun _ => .inr ⟨hne, by omega, rfl, ?_⟩, fun z => nomatch z⟩
                    rw [← hrd, readP_end hpp, if_neg hdup]
                  | cons c r2 =>
                    rw [hrr] at hpp hplen hdrop
                    have hat3 : at2 < l.length := by simp only [List.length_cons] at hplen; omega
                    have hcx : l[at2]? = some c := by
                      have := congrArg (fun z => z[0]?) hdrop
                      simpa using this
                    have hdr2 : l.drop (at2 + 1) = r2 := by
                      have := drop_at hcx
                      rw [hdrop] at this
                      exact (List.cons.inj this).2.symm
                    have hsep := cut2_sep a (hr.trans hrr)
                    have hmore := readP_more (leaves := ls) (pairs := ps) hpp
                    rw [if_neg hdup, hrd] at hmore
                    refine ⟨decide (c = 44), et_is (et_or (a := false) (et_is (et_test (ev_op2 (m := n) (ev_var rfl) hlenE fun H3 _ => rv_eqI)) (decide_eq_false (by omega))) (fun _ => et_test (ev_op2 (m := n) (ev_op2 (m := n) (ev_var rfl) (ev_var rfl) fun H3 _ => rv_ixS (by omega) (at_nat hcx)) (ev_str (l := [44]) (by decide +kernel)) fun H3 _ => rv_eqS))) (by rw [Bool.false_or]; exact decide_eq_decide.mpr (by simp)), fun hb4 => .inl ⟨hne, by omega, ?_⟩, fun hb4 => ⟨hne, by omega, ?_⟩⟩
                    · rw [if_pos (of_decide_eq_true hb4)] at hmore
                      rw [hdr2, hmore]
                    · rw [if_neg (of_decide_eq_false hb4)] at hmore
                      rw [hdr2, hmore]
                obtain ⟨b4, ht4, hT4, hF4⟩ := htest
                refine q_whenB (m := n) ht4 (fun hb4 => ?_) (fun hb4 => ?_)
                · refine StF.seq (s_appTup st2.hL st2.mL st2.hP st2.mP rfl rfl (by omega) fun T2 H4 e4' hT2 => ?_)
                  have st3 := (st2.step e4').leaf hT2
                  refine StF.run (R := R) (n := n) (H := upd (upd H4 T2 (.tup (ys ++ [.ref T]))) L (.lst (xs ++ [.ref T2]))) ?_ st3.J
                  refine s_asgE fun P2 H5 e5' hP2 => ?_
                  have st4 := (st3.step e5').fresh hP2
                  refine StF.run (R := R) (n := n) (H := upd H5 P2 (.lst [])) ?_ st4.J
                  refine s_asgV (m := n) (hinc P2 _) fun H6 e6 => ⟨l.length + 1 - (at2 + 1), by omega, at2 + 1, P2, _, _, _, _, _, _, _, rfl, st4.step e6, rfl, by simp; omega, Nat.zero_le _, by omega, .inr (hT4 hb4)⟩
                · refine s_asgV (m := n) (hinc P1 _) fun H6 e6 => ⟨l.length + 1 - (at2 + 1), by omega, at2 + 1, P1, _, _, _, _, _, _, _, rfl, st2.step e6, rfl, by omega, by simp; omega, by omega, .inr (.inl (hF4 hb4))⟩
      · -- behind the loop
        have hfin : ps = [] ∧ (if shortL ls then some ls else none) = lawName l := by
          rcases hc with ⟨z, rfl, rfl⟩ | ⟨z, z2, _⟩ | ⟨_, _, z, z2⟩
          · rw [z]
            exact ⟨rfl, rfl⟩
          · rw [decide_eq_false z, decide_eq_true z2] at hb
            cases hb
          · exact ⟨z, z2⟩
        obtain ⟨rfl, hZ⟩ := hfin
        have hy0 : ys = [] := List.length_eq_zero_iff.mp hys
        subst hy0
        have hlst : ∀ (x8 : Option V), EvP R n n (tVar 1) [some (sv l), some (.ref L), some (.ref P1), some (.int (i : Nat)), e4, e5, none, e7, x8, none] B (lstP (leafSP K) ls) := fun x8 => ev_varP rfl ⟨L, xs, rfl, ⟨st.hL, st.mL⟩, Paired_imp (fun _ _ z => z.sp st.j0) st.fl⟩
        refine q_asgV (m := n) (v := .bl (shortL ls)) (ev_is (ev_andV (a := decide ((ls.length : Int) ≤ 12)) (b := (ls.map fun x => decide (x.length ≤ 4)).all id) (ev_op2 (m := n) (x := .int ls.length) (ev_is (ev_lenL (ev_var rfl) (SqM.of st.hL st.mL)) (by rw [hxs])) ev_c fun H3 _ => rv_leI) fun _ => ev_all ?_) ?_) ?_
        · have h2 := ev_lcQ (te := tOp rLeU (tCB (rLenU K) (tCons (tVar 9) tNil)) (tC (.int 4))) (vs := [9]) (j := 9) (fun x : List Pair => .bl (decide (x.length ≤ 4))) [] (it_lstP (K := K) (hlst none)) (by omega) (fun x => rfl) (fun R' H' a x ex _ hx => ev_is (ev_op2 (m := n) (x := .int a.length) (ev_lenP (K := K) (pe := pairSP K) (qs := a) (ev_varP (p := leafSP K a) rfl hx)) ev_c fun H3 _ => rv_leI) (by congr 1; exact decide_eq_decide.mpr (by omega)))
          refine ev_is2 h2 ?_
          rw [List.map_map]
          rfl
        · congr 1
          unfold shortL
          rw [all_map]
          congr 1
          exact decide_eq_decide.mpr (by omega)
        · refine s_ret (m := n) (p := nameO K (readO (some l))) ?_ fun v H2 e2 hv => q v H2 ⟨e2.1, st.pr.trans e2.2⟩ hv
          show EvP R n n _ _ B (nameO K (lawName l))
          rw [← hZ]
          refine ev_ifB (m := n) (b := shortL ls) (et_is (et_and (et_B (ev_var rfl)) fun _ => et_test (ev_eqE (ev_var rfl) st.hP st.mP (ev_lstV (vs := []) ea_nil (Nat.zero_le _)))) (Bool.and_true _)) (fun hb5 => ?_) (fun hb5 => ?_)
          · rw [if_pos hb5]
            exact ev_tupOf (hlst _)
          · rw [if_neg (by rw [hb5]; decide)]
            exact ev_c

end
end My
namespace My
open PySem PySem.Spec PyProof.Rows L2
-- plain
theorem bare1_lens : ∀ {raw f : Codes} {fl : List Bool}, bare1 raw = some (f, fl) → f.length = fl.length ∧ f.length ≤ raw.length
  | [], _, _, h => by cases h; exact ⟨rfl, Nat.le_refl _⟩
  | [c], _, _, h => by
    unfold bare1 at h
    split at h
    · cases h
    · cases h; exact ⟨rfl, Nat.le_refl _⟩
  | c :: d :: r, _, _, h => by
    unfold bare1 at h
    split at h
    · obtain ⟨q, hq, e⟩ := Option.map_eq_some_iff.mp h
      cases e
      obtain ⟨h1, h2⟩ := bare1_lens (raw := r) (f := q.1) (fl := q.2) hq
      simp only [List.length_cons]
      omega
    · obtain ⟨q, hq, e⟩ := Option.map_eq_some_iff.mp h
      cases e
      obtain ⟨h1, h2⟩ := bare1_lens (raw := d :: r) (f := q.1) (fl := q.2) hq
      simp only [List.length_cons] at h2 ⊢
      omega
/-! ### _law_leaf -/
theorem sp_lens (m : Nat) : ∀ (n : Nat) (l acc : Codes), l.length ≤ n → (∀ p ∈ sp m acc l, p.length ≤ acc.length + l.length) ∧ (sp m acc l).length ≤ l.length + 1 := by
  intro n
  induction n with
  | zero =>
    intro l acc h
    have : l = [] := List.length_eq_zero_iff.mp (Nat.le_zero.mp h)
    subst this
    simp [sp]
  | succ n ih =>
    intro l acc h
    match l, h with
    | [], _ => simp [sp]
    | [c], _ =>
      by_cases hc : c = m
      · rw [hc, sp_mark]; simp [sp]
      · rw [sp_plain' hc]; simp
    | c :: d :: r, h =>
      simp only [List.length_cons] at h
      rw [sp_cons2]
      split
      · obtain ⟨h1, h2⟩ := ih (d :: r) [] (by simp only [List.length_cons]; omega)
        refine ⟨fun p hp => ?_, by simp only [List.length_cons] at h2 ⊢; omega⟩
        rcases List.mem_cons.mp hp with rfl | hp
        · omega
        · have := h1 p hp
          simp only [List.length_cons, List.length_nil] at this ⊢
          omega
      · split
        · obtain ⟨h1, h2⟩ := ih r (acc ++ [92, d]) (by omega)
          refine ⟨fun p hp => ?_, by simp only [List.length_cons] at h2 ⊢; omega⟩
          have := h1 p hp
          simp only [List.length_append, List.length_cons, List.length_nil] at this ⊢
          omega
        · obtain ⟨h1, h2⟩ := ih (d :: r) (acc ++ [c]) (by simp only [List.length_cons]; omega)
          refine ⟨fun p hp => ?_, by simp only [List.length_cons] at h2 ⊢; omega⟩
          have := h1 p hp
          simp only [List.length_append, List.length_cons, List.length_nil] at this ⊢
          omega
theorem sp_len {m : Nat} {l p : Codes} (h : p ∈ sp m [] l) : p.length ≤ l.length := by
  have := (sp_lens m l.length l [] (Nat.le_refl _)).1 p h
  simp only [List.length_nil] at this
  omega
theorem sp_many (m : Nat) (l : Codes) : (sp m [] l).length ≤ l.length + 1 := (sp_lens m l.length l [] (Nat.le_refl _)).2
theorem bareL_len {raw v : Codes} (h : bareL raw = some v) : v.length ≤ raw.length := by
  unfold bareL at h
  cases hb : bare1 raw with
  | none => rw [hb] at h; cases h
  | some q =>
    obtain ⟨f, fl⟩ := q
    rw [hb] at h
    dsimp only at h
    split at h
    · cases h; exact (bare1_lens hb).2
    · cases h
/-! ### _law_name -/
theorem sp_mem (m : Nat) : ∀ (n : Nat) (l acc : Codes), l.length ≤ n → ∀ p ∈ sp m acc l, ∀ c ∈ p, c ∈ acc ∨ c ∈ l := by
  intro n
  induction n with
  | zero =>
    intro l acc h p hp c hc
    have : l = [] := List.length_eq_zero_iff.mp (Nat.le_zero.mp h)
    subst this
    simp [sp] at hp
    subst hp
    exact .inl hc
  | succ n ih =>
    intro l acc h p hp c hc
    match l, h, hp with
    | [], _, hp =>
      simp [sp] at hp
      subst hp
      exact .inl hc
    | [x], _, hp =>
      by_cases hx : x = m
      · rw [hx, sp_mark] at hp
        simp [sp] at hp
        rcases hp with rfl | rfl
        · exact .inl hc
        · cases hc
      · rw [sp_plain' hx] at hp
        rw [List.mem_singleton.mp hp] at hc
        rcases List.mem_append.mp hc with z | z
        · exact .inl z
        · exact .inr z
    | x :: d :: r, h, hp =>
      simp only [List.length_cons] at h
      rw [sp_cons2] at hp
      split at hp
      · rcases List.mem_cons.mp hp with rfl | hp
        · exact .inl hc
        · rcases ih (d :: r) [] (by simp only [List.length_cons]; omega) p hp c hc with z | z
          · cases z
          · exact .inr (List.mem_cons_of_mem _ z)
      · next hx =>
        split at hp
        · next h92 =>
          rcases ih r (acc ++ [92, d]) (by omega) p hp c hc with z | z
          · rcases List.mem_append.mp z with z | z
            · exact .inl z
            · refine .inr ?_
              rw [h92]
              rcases List.mem_cons.mp z with z | z
              · rw [z]; exact List.mem_cons_self ..
              · rw [List.mem_singleton.mp z]; exact List.mem_cons_of_mem _ (List.mem_cons_self ..)
          · exact .inr (List.mem_cons_of_mem _ (List.mem_cons_of_mem _ z))
        · rcases ih (d :: r) (acc ++ [x]) (by simp only [List.length_cons]; omega) p hp c hc with z | z
          · rcases List.mem_append.mp z with z | z
            · exact .inl z
            · rw [List.mem_singleton.mp z]; exact .inr (List.mem_cons_self ..)
          · exact .inr (List.mem_cons_of_mem _ z)
theorem sp_asc {m : Nat} {l p : Codes} (ha : asc l) (h : p ∈ sp m [] l) : asc p := asc_sub (fun c hc => (sp_mem m l.length l [] (Nat.le_refl _) p h c hc).resolve_left (fun z => nomatch z)) ha
theorem pair_asc {p : Codes} {q : Pair} (ha : asc p) (h : pairLaw p = some q) : asc q.1 ∧ asc q.2 := by
  obtain ⟨w, v⟩ := q
  obtain ⟨raw, e, _, _, hb⟩ := pairLaw_form h
  refine ⟨asc_sub (fun c hc => by rw [e]; exact List.mem_append_left _ hc) ha, asc_sub (fun c hc => ?_) ha⟩
  rw [e]
  refine List.mem_append_right _ (List.mem_cons_of_mem _ ?_)
  unfold bareL at hb
  cases h1 : bare1 raw with
  | none => rw [h1] at hb; cases hb
  | some q =>
    obtain ⟨f, fl⟩ := q
    rw [h1] at hb
    dsimp only at hb
    split at hb
    · cases hb
      rw [← (bare1_enc h1).2] at hc
      exact fnd_mem raw c hc
    · cases hb
theorem leafL_asc : ∀ (ps : List Codes) (acc r : List Pair), (∀ p ∈ ps, asc p) → (∀ q ∈ acc, asc q.1 ∧ asc q.2) → leafL acc ps = some r → ∀ q ∈ r, asc q.1 ∧ asc q.2
  | [], acc, r, _, h2, h => by
    cases h
    exact h2
  | p :: ps, acc, r, h1, h2, h => by
    rw [leafL_cons] at h
    cases hp : pairLaw p with
    | none => rw [hp] at h; cases h
    | some q =>
      rw [hp] at h
      dsimp only at h
      split at h
      · cases h
      · refine leafL_asc ps _ r (fun x hx => h1 x (List.mem_cons_of_mem _ hx)) (fun x hx => ?_) h
        rcases List.mem_append.mp hx with z | z
        · exact h2 x z
        · rw [List.mem_singleton.mp z]
          exact pair_asc (h1 p (List.mem_cons_self ..)) hp
theorem lawLeaf_asc {l : Codes} {ps : List Pair} (ha : asc l) (h : lawLeaf l = some ps) : ∀ q ∈ ps, asc q.1 ∧ asc q.2 := by
  unfold lawLeaf at h
  cases hl : leafL [] (sp 43 [] l) with
  | none => rw [hl] at h; cases h
  | some r =>
    rw [hl] at h
    dsimp only at h
    split at h
    · cases h
      exact leafL_asc _ [] _ (fun p hp => sp_asc ha hp) (fun q hq => nomatch hq) hl
    · cases h
/-! as data -/
theorem strOk_asc {l : Codes} (h : asc l) : PyData.strOk (SX.S l) = true := by
  unfold asc at h
  rw [List.all_eq_true] at h
  unfold PyData.strOk
  have : ∀ c ∈ l, decide (c < 0x110000) = true := fun c hc => by
    have := of_decide_eq_true (h c hc)
    exact decide_eq_true (by omega)
  simpa [SX.S] using this

end My
namespace My
open PySem PySem.Spec PyProof.Rows L2
-- plain
/-! ### printable texts, and texts otherwise written -/
/-- printable signs without the percent sign; a text of such signs -/
def prn (l : Codes) : Prop := ∀ c ∈ l, 32 ≤ c ∧ c < 127
/-- not only spaces -/
def inky (l : Codes) : Prop := ∃ c ∈ l, c ≠ 32
theorem prn_asc {l : Codes} (h : prn l) : asc l := by
  unfold asc
  rw [List.all_eq_true]
  intro c hc
  have := (h c hc).2
  exact decide_eq_true (by omega)
theorem prn_app {a b : Codes} (ha : prn a) (hb : prn b) : prn (a ++ b) := fun c hc => (List.mem_append.mp hc).elim (ha c) (hb c)
theorem prn_sub {a b : Codes} (h : ∀ c ∈ a, c ∈ b) (hb : prn b) : prn a := fun c hc => hb c (h c hc)
theorem prn_take {a : Codes} {i : Nat} (h : prn a) : prn (a.take i) := prn_sub (fun _ hc => List.mem_of_mem_take hc) h
theorem prn_drop {a : Codes} {i : Nat} (h : prn a) : prn (a.drop i) := prn_sub (fun _ hc => List.mem_of_mem_drop hc) h
def signsL : Codes := [97, 97, 98, 32, 32, 65, 66, 44, 43, 61, 92]
def moreL : Codes := cs " !\"#$&'()*+,-./0123456789:;<=>?@ABCDEFGHIJKLMNOPQRSTUVWXYZ[\\]^_`abcdefghijklmnopqrstuvwxyz{|}~"
theorem signs_prn : ∀ c ∈ signsL, 32 ≤ c ∧ c < 127 := by decide
theorem more_prn : ∀ c ∈ moreL, 32 ≤ c ∧ c < 127 := by decide +kernel
theorem more_len : 0 < moreL.length ∧ moreL.length ≤ 100000 := by decide +kernel
def lowT (l : Codes) : Codes := (lowL l).foldl lowStep []
theorem lowT_snoc (l : Codes) (c : Nat) : lowT (l ++ [c]) = lowStep (lowT l) (PyProof.Rows.lo1 c) := by
  unfold lowT lowL
  rw [List.map_append, List.foldl_append]
  rfl
theorem lowT_len (l : Codes) : (lowT l).length ≤ l.length := by
  have h := lowFold_len (lowL l) []
  rw [lowL_len] at h
  have e : ([] : Codes).length = 0 := rfl
  unfold lowT
  omega
theorem lowStep_yes {X : Codes} (h : X ≠ [] ∧ X.getLast? ≠ some 32) : lowStep X 32 = X ++ [32] := if_pos (.inr h)
theorem lowStep_no {X : Codes} (h : ¬ (X ≠ [] ∧ X.getLast? ≠ some 32)) : lowStep X 32 = X := if_neg fun z => z.elim (fun y => y rfl) h
theorem lowStep_sp2 (X : Codes) : lowStep (lowStep X 32) 32 = lowStep X 32 := by
  by_cases h : X ≠ [] ∧ X.getLast? ≠ some 32
  · rw [lowStep_yes h, lowStep_no fun z => z.2 (by simp)]
  · rw [lowStep_no h, lowStep_no h]
theorem lowEnd_sp (X : Codes) : lowEnd (lowStep X 32) = lowEnd X := by
  unfold lowStep
  by_cases h : X ≠ [] ∧ X.getLast? ≠ some 32
  · rw [if_pos (.inr h)]
    unfold lowEnd
    rw [if_pos (by simp), if_neg h.2, List.dropLast_concat]
  · rw [if_neg fun z => z.elim (fun y => y rfl) h]
theorem plain_end (f : Codes) : plainL (f ++ [32]) = plainL f := by
  rw [← low_plain, ← low_plain]
  show lowEnd (lowT (f ++ [32])) = lowEnd (lowT f)
  rw [lowT_snoc]
  exact lowEnd_sp _
theorem plain_begin (f : Codes) : plainL (32 :: f) = plainL f := by
  rw [← low_plain, ← low_plain]
  show lowEnd ((lowL f).foldl lowStep (lowStep [] 32)) = _
  have : lowStep [] 32 = [] := by decide
  rw [this]
theorem lo_up : ∀ c, c < 128 → PyProof.Rows.lo1 (PyProof.Rows.up1 c) = PyProof.Rows.lo1 c := by decide
theorem lo_lo : ∀ c, c < 128 → PyProof.Rows.lo1 (PyProof.Rows.lo1 c) = PyProof.Rows.lo1 c := by decide
theorem up_prn : ∀ c, c < 127 → 32 ≤ c → 32 ≤ PyProof.Rows.up1 c ∧ PyProof.Rows.up1 c < 127 := by decide
theorem lo_prn : ∀ c, c < 127 → 32 ≤ c → 32 ≤ PyProof.Rows.lo1 c ∧ PyProof.Rows.lo1 c < 127 := by decide
theorem take_snoc {l : Codes} {i c : Nat} (h : l[i]? = some c) : l.take (i + 1) = l.take i ++ [c] := by
  rw [List.take_add_one, h]
  rfl
theorem atI_nat {α : Type} {xs : List α} {j : Nat} {x : α} (h : xs[j]? = some x) : atI xs (j : Int) = some x := by
  have hj := (List.getElem?_eq_some_iff.mp h).1
  obtain ⟨y, h1, h2⟩ := atI_mem (xs := xs) (i := (j : Int)) (by omega) (by omega)
  rw [Int.toNat_natCast, h] at h2
  rw [h1, h2]
theorem prn_one {c : Nat} (h : 32 ≤ c ∧ c < 127) : prn [c] := fun x hx => by rw [List.mem_singleton.mp hx]; exact h

end My
namespace My
open PySem PySem.Spec PyProof.Rows L2
-- plain
/-! ### pairs as data -/
def dP (q : Pair) : PyData := .tuple [.str (SX.S q.1), .str (SX.S q.2)]
theorem shP {q : Pair} (h : asc q.1 ∧ asc q.2) : PyData.canLay0 (dP q) = true ∧ PyData.depth (dP q) = 1 := by
  refine ⟨?_, rfl⟩
  show (PyData.strOk _ && (PyData.strOk _ && true)) = true
  rw [strOk_asc h.1, strOk_asc h.2]
  rfl
theorem shL : ∀ {ps : List Pair}, (∀ q ∈ ps, asc q.1 ∧ asc q.2) → PyData.canLayAll0 (ps.map dP) = true ∧ PyData.depthAll (ps.map dP) ≤ 1
  | [], _ => ⟨rfl, Nat.zero_le _⟩
  | q :: ps, h => by
    obtain ⟨h1, h2⟩ := shP (h q (List.mem_cons_self ..))
    obtain ⟨h3, h4⟩ := shL (ps := ps) fun x hx => h x (List.mem_cons_of_mem _ hx)
    refine ⟨?_, ?_⟩
    · show (PyData.canLay0 (dP q) && PyData.canLayAll0 (ps.map dP)) = true
      rw [h1, h3]
      rfl
    · show max (PyData.depth (dP q)) (PyData.depthAll (ps.map dP)) ≤ 1
      rw [h2]
      omega

end My
namespace My
open PySem PySem.Spec PyProof.Rows L2
-- plain
theorem bnd {a : Nat} {lo hi : Int} {lo' hi' : Nat} (h1 : lo = (lo' : Int)) (h2 : hi = (hi' : Int)) : (decide (lo ≤ (a : Int)) && decide ((a : Int) ≤ hi)) = decide (lo' ≤ a ∧ a ≤ hi') := by
  rw [Bool.decide_and]
  congr 1 <;> exact decide_eq_decide.mpr (by omega)

end My
namespace My
open PySem PySem.Spec PyProof.Rows L2
section
variable {P : Program} [hP : OkP fileS P] {w : World} {K : PySem.W.Frag} {mg : Str → Option Value} {base : Heap}
/-! ### the law's own look: _law_is_word, _law_is_text -/
abbrev N0_l_is_word : List Str := ["_law_thing"]
theorem sc0_l_is_word : FnScope N0_l_is_word ["_law_thing"] (defScope s_l_is_word) := ⟨rfl, rfl, rfl, by decide +kernel, rfl, by decide +kernel, by decide +kernel⟩
-- slots: 0 _law_thing
def sp_l_is_word : Sp := pureSp (fun (l : Codes) _ vs _ => vs = [sv l] ∧ l.length ≤ 20000) (fun l => is (.bl (isWordL l)))
theorem strip_all {l b : Codes} {f : Nat → Bool} (h : ∀ c, decide (c ∈ b) = f c) : decide (stripL l b = []) = l.all f := by
  by_cases z : stripL l b = []
  · rw [decide_eq_true z]
    refine (List.all_eq_true.mpr fun c hc => ?_).symm
    rw [← h]
    exact decide_eq_true (strip_nil.mp z c hc)
  · rw [decide_eq_false z]
    refine (Bool.eq_false_iff.mpr fun z2 => z (strip_nil.mpr fun c hc => ?_)).symm
    have := List.all_eq_true.mp z2 c hc
    rw [← h] at this
    exact of_decide_eq_true this
theorem c0_l_is_word (T : Tx K mg) : Cal P w K mg base 1 "_law_is_word" ["_law_thing"] (sp_l_is_word) := by
  refine T.d_l_is_word.cal sc0_l_is_word (fun vs H Q E h => ?_) (fun _ _ _ _ _ _ us hl => match us, hl with | [_], _ => rfl) (fun f cdv A outer s H vs Q E hr h => ?_)
  · obtain ⟨R, n, l, _, ⟨rfl, _⟩, _⟩ := h
    rfl
  · obtain ⟨R, n, l, hj, ⟨rfl, hl⟩, q⟩ := h
    refine ⟨_, (pss_one (ps_ret (pe_and (pe_chain cm_LtE cm_LtE pe_int (pe_callB (call_lenA (K := K)) (by rfl) T.b_len (by decide +kernel) (pa_cons (pv 0) pa_nil)) pe_int) (pe_and (pe_cmpR (cm_NotEq (K := K) hr.units) (pv 0) pe_str (nomark _)) (pe_one (pe_cmpR (cm_Eq (K := K) hr.units) (pe_bmK (K := K) PySem.F.plainAttrs_str PySem.F.slot_str_strip PySem.F.type_str_strip mt_stripA (pv 0) (pa_cons pe_str pa_nil)) pe_str (nomark _))))))), ?_⟩
    refine StF.run (R := R) (n := n) ?_ hj
    refine s_ret (m := n) (p := is (.bl (isWordL l))) (ev_is (ev_andV (ev_chain ev_c (ev_lenS (ev_var rfl) (by omega)) ev_c (fun H3 _ => rv_leI) (fun H3 _ => rv_leI)) fun _ => ev_andV (ev_op2 (m := n) (ev_var rfl) (ev_str (l := [115, 101, 108, 102]) (by decide +kernel)) fun H3 _ => rv_neS) fun _ => ev_op2 (m := n) (ev_strip0 (f := stripL l letL) (ev_var rfl) (ev_str (l := letL) (SX.S_tl _).symm) rfl (by omega)) (ev_str (l := []) (by decide +kernel)) fun H3 _ => rv_eqS) ?_) q
    rw [bnd (lo := 1) (hi := 12) (lo' := 1) (hi' := 12) rfl rfl, strip_all letL_mem]
    rfl
abbrev N0_l_is_text : List Str := ["_law_thing"]
theorem sc0_l_is_text : FnScope N0_l_is_text ["_law_thing"] (defScope s_l_is_text) := ⟨rfl, rfl, rfl, by decide +kernel, rfl, by decide +kernel, by decide +kernel⟩
-- slots: 0 _law_thing
def sp_l_is_text : Sp := pureSp (fun (l : Codes) _ vs _ => vs = [sv l] ∧ l.length ≤ 20000) (fun l => is (.bl (isTextL l)))
theorem c0_l_is_text (T : Tx K mg) : Cal P w K mg base 1 "_law_is_text" ["_law_thing"] (sp_l_is_text) := by
  refine T.d_l_is_text.cal sc0_l_is_text (fun vs H Q E h => ?_) (fun _ _ _ _ _ _ us hl => match us, hl with | [_], _ => rfl) (fun f cdv A outer s H vs Q E hr h => ?_)
  · obtain ⟨R, n, l, _, ⟨rfl, _⟩, _⟩ := h
    rfl
  · obtain ⟨R, n, l, hj, ⟨rfl, hl⟩, q⟩ := h
    refine ⟨_, (pss_one (ps_ret (pe_and (pe_chain cm_LtE cm_LtE pe_int (pe_callB (call_lenA (K := K)) (by rfl) T.b_len (by decide +kernel) (pa_cons (pv 0) pa_nil)) pe_int) (pe_and (pe_cmpR (cm_NotIn (K := K) (hu65 hr)) pe_str (pv 0) (by rfl)) (pe_one (pe_cmpR (cm_NotEq (K := K) hr.units) (pe_bmK (K := K) PySem.F.plainAttrs_str PySem.F.slot_str_strip PySem.F.type_str_strip mt_stripA (pv 0) (pa_cons pe_str pa_nil)) pe_str (nomark _))))))), ?_⟩
    refine StF.run (R := R) (n := n) ?_ hj
    refine s_ret (m := n) (p := is (.bl (isTextL l))) (ev_is (ev_andV (ev_chain ev_c (ev_lenS (ev_var rfl) (by omega)) ev_c (fun H3 _ => rv_leI) (fun H3 _ => rv_leI)) fun _ => ev_andV (ev_op2 (m := n) (ev_str (l := [10]) (by decide +kernel)) (ev_var rfl) fun H3 _ => rv_niS) fun _ => ev_op2 (m := n) (ev_strip0 (f := stripL l [32]) (ev_var rfl) (ev_str (l := [32]) (by decide +kernel)) rfl (by omega)) (ev_str (l := []) (by decide +kernel)) fun H3 _ => rv_neS) ?_) q
    rw [bnd (lo := 1) (hi := 60) (lo' := 1) (hi' := 60) rfl rfl]
    rfl
/-! ### _law_split -/
abbrev N0_l_split : List Str := ["_law_line_here", "_law_mark", "_law_found", "_law_piece", "_law_k", "_law_size"]
theorem sc0_l_split : FnScope N0_l_split ["_law_line_here", "_law_mark"] (defScope s_l_split) := ⟨rfl, rfl, rfl, by decide +kernel, rfl, by decide +kernel, by decide +kernel⟩
-- slots: 0 _law_line_here, 1 _law_mark, 2 _law_found, 3 _law_piece, 4 _law_k, 5 _law_size
def sp_l_split (K : PySem.W.Frag) : Sp := pureSp (fun (x : Nat × Codes) _ vs _ => vs = [sv x.2, sv [x.1]] ∧ x.1 ≠ 92 ∧ x.2.length ≤ 20000) (fun x => lstG (· = (sp x.1 [] x.2).map sv))
/-- one list of the run's own that grows -/
structure OwnL (R : Rel) (n : Nat) (H0 : Hp) (F : Addr) (xs : List V) (H : Hp) : Prop where
  j0 : R.J n H0
  J : R.J n H
  pr : pres R.M H0 H
  f0 : H0 F = none
  hF : H F = some (.lst xs)
theorem OwnL.m {R : Rel} {n : Nat} {H0 H : Hp} {F : Addr} {xs : List V} (h : OwnL R n H0 F xs H) : ¬ R.M F := R.fresh h.j0 h.f0
theorem OwnL.step {R : Rel} {n : Nat} {H0 H H' : Hp} {F : Addr} {xs : List V} (h : OwnL R n H0 F xs H) (e : R.ok n H H') : OwnL R n H0 F xs H' := ⟨h.j0, e.1, h.pr.trans e.2, h.f0, e.2 _ _ h.m h.hF⟩
theorem OwnL.put {R : Rel} {n : Nat} {H0 H : Hp} {F : Addr} {xs ys : List V} (h : OwnL R n H0 F xs H) : OwnL R n H0 F ys (upd H F (.lst ys)) := ⟨h.j0, R.put h.J h.m, pres_upd0 h.pr h.f0, h.f0, upd_same⟩
theorem OwnL.new {R : Rel} {n : Nat} {H0 H : Hp} {F : Addr} {xs : List V} (j0 : R.J n H0) (e : R.ok n H0 H) (hF : H F = none) : OwnL R n H0 F xs (upd H F (.lst xs)) := ⟨j0, R.put e.1 (R.fresh e.1 hF), pres_upd0 e.2 (old_none e hF), old_none e hF, upd_same⟩
theorem OwnL.tup {R : Rel} {n : Nat} {H0 H : Hp} {F T : Addr} {xs ys : List V} (h : OwnL R n H0 F xs H) (hT : H T = none) : OwnL R n H0 F xs (upd H T (.tup ys)) := h.step (R.new h.J hT)
/-- l.append(x) -/
theorem s_appV {R : Rel} {n : Nat} {H : Hp} {σ : L2.St} {te : TE} {D : Ends} {l : Addr} {xs : List V} {v : V} {i : Nat} (hl : H l = some (.lst xs)) (hm : ¬ R.M l) (hi : σ[i]? = some (some (.ref l))) (he : EvP R n n te σ H (is v)) (hz : xs.length < 100000)
    (f : ∀ H1, R.ok n H H1 → D.nx σ (upd H1 l (.lst (xs ++ [v])))) : StF R n (tDrop (tBM K "list" rAppend (tVar i) (tCons te tNil))) D σ H := fun H1 e =>
  ⟨.ref l, hi, .inl ⟨rfl, xs, .inl (.inl (e.2 l _ hm hl))⟩, he H1 e _ fun w H2 e2 hw => by
    have hw : w = v := hw
    subst hw
    exact ⟨l, xs, w, rfl, rfl, (R.trans e e2).2 l _ hm hl, Evl.sz_lt hz, f H2 (R.trans e e2)⟩⟩
/-- a, b, c = [], x, y -/
theorem q_asg3 {R : Rel} {n : Nat} {H : Hp} {σ : L2.St} {tb tc : TE} {D : Ends} {tz : TS} {i j k : Nat} {u w : V} (hj0 : R.J n H) (hb : ∀ B, R.ok n H B → EvP R n n tb σ B (is u)) (hc : ∀ B, R.ok n H B → EvP R n n tc σ B (is w)) (f : ∀ F B, OwnL R n H F [] B → StF R n tz D (((σ.set i (some (.ref F))).set j (some u)).set k (some w)) B) :
    StF R n (tSeq (tPar3 i j k (tCons (tLst tNil) (tCons tb (tCons tc tNil)))) tz) D σ H := fun H1 e =>
  ⟨Evl.sz_of (Nat.zero_le _), fun F hF => by
    have o1 : OwnL R n H F [] (upd H1 F (.lst [])) := OwnL.new hj0 e hF
    have e1 : R.ok n H (upd H1 F (.lst [])) := ⟨o1.J, o1.pr⟩
    refine hb _ e1 _ (R.refl e1) _ fun x H2 e2 hx => hc H2 (R.trans e1 e2) _ (R.refl e2) _ fun y H3 e3 hy => ?_
    have hx : x = u := hx
    have hy : y = w := hy
    subst hx; subst hy
    have o3 := (o1.step e2).step e3
    exact ⟨_, _, _, rfl, (f F _ o3).run o3.J⟩⟩
/-- a, b, c = x, [], y -/
theorem q_asg3b {R : Rel} {n : Nat} {H : Hp} {σ : L2.St} {tb tc : TE} {D : Ends} {tz : TS} {i j k : Nat} {u w : V} (hj0 : R.J n H) (hb : EvP R n n tb σ H (is u)) (hc : ∀ B, R.ok n H B → EvP R n n tc σ B (is w)) (f : ∀ F B, OwnL R n H F [] B → StF R n tz D (((σ.set i (some u)).set j (some (.ref F))).set k (some w)) B) :
    StF R n (tSeq (tPar3 i j k (tCons tb (tCons (tLst tNil) (tCons tc tNil)))) tz) D σ H := fun H1 e =>
  hb H1 e _ fun x H2 e2 hx => ⟨Evl.sz_of (Nat.zero_le _), fun F hF => by
    have hx : x = u := hx
    subst hx
    have o1 : OwnL R n H F [] (upd H2 F (.lst [])) := OwnL.new hj0 (R.trans e e2) hF
    have e1 : R.ok n H (upd H2 F (.lst [])) := ⟨o1.J, o1.pr⟩
    refine hc _ e1 _ (R.refl e1) _ fun y H3 e3 hy => ?_
    have hy : y = w := hy
    subst hy
    have o3 := o1.step e3
    exact ⟨_, _, _, rfl, (f F _ o3).run o3.J⟩⟩
theorem c0_l_split (T : Tx K mg) : Cal P w K mg base 1 "_law_split" ["_law_line_here", "_law_mark"] (sp_l_split K) := by
  refine T.d_l_split.cal sc0_l_split (fun vs H Q E h => ?_) (fun _ _ _ _ _ _ us hl => match us, hl with | [_, _], _ => rfl) (fun f cdv A outer s H vs Q E hr h => ?_)
  · obtain ⟨R, n, x, _, ⟨rfl, _⟩, _⟩ := h
    rfl
  · obtain ⟨R, n, ⟨mk, l⟩, hj, ⟨rfl, hm, hl⟩, q⟩ := h
    refine ⟨_, (pss_cons (ps_par3 (i := 2) (j := 3) (l := 4) (by rfl) sc0_l_split.nd rfl rfl rfl (by decide) (by decide) (by decide) rfl rfl rfl (pa_cons (pe_lst pa_nil) (pa_cons pe_str (pa_cons pe_int pa_nil))) (by rfl))
      (pss_cons (ps_while PassesOwn.never (pt_cmpR cm_Lt (pv 4) (pe_callB (call_lenA (K := K)) (by rfl) T.b_len (by decide +kernel) (pa_cons (pv 0) pa_nil)) (nomark _))
      (pss_cons (ps_if (pt_cmpR (cm_Eq (K := K) hr.units) (pe_ix (ix_any (K := K)) (pv 0) (pv 4) (fun _ _ => rfl)) (pv 1) (nomark _)) (pss_cons (ps_expr (pe_bmK (K := K) PySem.F.plainAttrs_list PySem.F.slot_list_append PySem.F.type_list_append mt_append (pv 2) (pa_cons (pv 3) pa_nil)))
      (pss_one (ps_set (i := 3) sc0_l_split.nd rfl (by first | exact Or.inl rfl | exact Or.inr rfl) pe_str))) (pss_cons (ps_set (i := 5) sc0_l_split.nd rfl (by first | exact Or.inl rfl | exact Or.inr rfl) (pe_ifExp (pt_cmpR (cm_Eq (K := K) hr.units) (pe_ix (ix_any (K := K)) (pv 0) (pv 4) (fun _ _ => rfl)) pe_str (nomark _)) pe_int pe_int))
      (pss_cons (ps_set (i := 3) sc0_l_split.nd rfl (by first | exact Or.inl rfl | exact Or.inr rfl) (pe_op (op_Add (K := K)) (pv 3) (pe_slice (sl_any (K := K)) (pv 0) (po_some (pv 4)) (po_some (pe_op (op_Add (K := K)) (pv 4) (pv 5))))))
      (pss_one (ps_set (i := 4) sc0_l_split.nd rfl (by first | exact Or.inl rfl | exact Or.inr rfl) (pe_op op_sub (pe_op (op_Add (K := K)) (pv 4) (pv 5)) pe_int))))))
      (pss_one (ps_set (i := 4) sc0_l_split.nd rfl (by first | exact Or.inl rfl | exact Or.inr rfl) (pe_op (op_Add (K := K)) (pv 4) pe_int)))))
      (pss_one (ps_ret (pe_op (op_Add (K := K)) (pv 2) (pe_lst (pa_cons (pv 3) pa_nil))))))), ?_⟩
    have hl : l.length ≤ 20000 := hl
    have hm : mk ≠ 92 := hm
    refine StF.run (R := R) (n := n) ?_ hj
    refine q_asg3 (u := sv []) (w := .int ((0 : Nat) : Int)) hj (fun B _ => ev_str (c := "") (l := []) (by decide +kernel)) (fun B _ => ev_c) fun F B0 o0 => ?_
    refine q_whileH (fun m σ' H' => ∃ (k : Nat) (done : List Codes) (pc : Codes) (x : Option V), σ' = [some (sv l), some (sv [mk]), some (.ref F), some (sv pc), some (.int (k : Nat)), x] ∧ OwnL R n H F (done.map sv) H' ∧ m = l.length + 1 - k ∧ k ≤ l.length + 1 ∧ done.length ≤ k ∧ pc.length ≤ k ∧ done ++ sp mk pc (l.drop k) = sp mk [] l) (l.length + 1) (fun H3 e3 => ⟨0, [], [], none, rfl, o0.step e3, rfl, Nat.zero_le _, Nat.le_refl _, Nat.le_refl _, rfl⟩) fun m σ' B hW => ?_
    obtain ⟨k, done, pc, x, rfl, own, rfl, hk, hdn, hpc, hsp⟩ := hW
    refine ⟨own.J, decide (k < l.length), et_is (et_test (ev_op2 (m := n) (ev_var rfl) (ev_lenS (ev_var rfl) (by omega)) fun H3 _ => rv_ltI)) (decide_eq_decide.mpr (by omega)), fun hb => ?_, fun hb => ?_⟩
    · have hlt : k < l.length := of_decide_eq_true hb
      have hc : l[k]? = some l[k] := List.getElem?_eq_getElem hlt
      generalize l[k] = c at hc
      have hd := drop_at hc
      have hix : ∀ (B : Hp) (pc : Codes) (x : Option V), EvP R n n (tOp (rIx K) (tVar 0) (tVar 4)) [some (sv l), some (sv [mk]), some (.ref F), some (sv pc), some (.int (k : Nat)), x] B (is (sv [c])) := fun B pc x => ev_op2 (m := n) (ev_var rfl) (ev_var rfl) fun H3 _ => rv_ixS (by omega) (at_nat hc)
      have hinc : ∀ (B : Hp) (pc : Codes) (x : Option V) (k2 : Nat), EvP R n n (tOp (rAddU K) (tVar 4) (tC (.int 1))) [some (sv l), some (sv [mk]), some (.ref F), some (sv pc), some (.int (k2 : Nat)), x] B (is (.int ((k2 + 1 : Nat) : Int))) := fun B pc x k2 => ev_is (ev_op2 (m := n) (ev_var rfl) ev_c fun H3 _ => rv_addI) (by congr 1)
      refine StF.seq (s_ifB (m := n) (b := decide (c = mk)) (et_is (et_test (ev_op2 (m := n) (hix B pc x) (ev_var rfl) fun H3 _ => rv_eqS)) (decide_eq_decide.mpr (by simp))) (fun hb2 => ?_) (fun hb2 => ?_))
      · have hb2 := of_decide_eq_true hb2
        subst hb2
        refine StF.seq (s_appV own.hF own.m rfl (v := sv pc) (ev_var rfl) (by rw [List.length_map]; omega) fun H3 e3 => ?_)
        have o3 : OwnL R n H F ((done ++ [pc]).map sv) (upd H3 F (.lst (done.map sv ++ [sv pc]))) := by
          rw [List.map_append]
          exact (own.step e3).put
        dsimp only
        refine StF.run (R := R) (n := n) (H := upd H3 F (.lst (done.map sv ++ [sv pc]))) ?_ o3.J
        refine s_asgV (m := n) (v := sv []) (ev_str (c := "") (l := []) (by decide +kernel)) fun H4 e4 => ?_
        dsimp only
        refine StF.run (R := R) (n := n) (H := H4) ?_ e4.1
        refine s_asgV (m := n) (hinc _ _ _ _) fun H5 e5 => ⟨l.length + 1 - (k + 1), by omega, k + 1, done ++ [pc], [], _, rfl, (o3.step e4).step e5, rfl, by omega, by simp; omega, Nat.zero_le _, ?_⟩
        rw [← hsp, hd, sp_mark]
        simp
      · have hb2 := of_decide_eq_false hb2
        have hstep : ∃ (sz : Nat), (sz = if c = 92 then 2 else 1) ∧ sl l (some ((k : Nat) : Int)) (some (((k : Nat) : Int) + ((sz : Nat) : Int))) = (l.drop k).take sz ∧ k + sz ≤ l.length + 1 ∧ sp mk (pc ++ (l.drop k).take sz) (l.drop (k + sz)) = sp mk pc (l.drop k) := by
          by_cases h92 : c = 92
          · refine ⟨2, by rw [if_pos h92], ?_, by omega, ?_⟩
            · by_cases h2 : k + 2 ≤ l.length
              · rw [sl_mid (by omega) (by omega) (by omega), Int.toNat_natCast, show (((k : Nat) : Int) + ((2 : Nat) : Int) - ((k : Nat) : Int)).toNat = 2 by omega]
              · have hk1 : k + 1 = l.length := by omega
                unfold sl
                rw [C8.cutS_slice]
                unfold Txt.slice
                rw [SX.S_len, SX.idx_hi (by omega)]
                have e := beq_iff_eq.mp (PyProof.Rows.slice_closesL (x := SX.S l) (i := (k : Nat)) (j := (l.length : Nat)) (by omega) (by omega) (by rw [SX.S_len]; omega))
                unfold Txt.slice at e
                rw [SX.S_len] at e
                rw [e]
                show (l.drop k).take _ = _
                rw [List.take_of_length_le (by rw [List.length_drop]; omega), List.take_of_length_le (by rw [List.length_drop]; omega)]
            · rw [hd]
              cases hr : l.drop (k + 1) with
              | nil =>
                have : l.drop (k + 2) = [] := by
                  have := congrArg List.length hr
                  rw [List.length_drop] at this
                  exact List.drop_eq_nil_of_le (by simp at this; omega)
                rw [this]
                show sp mk (pc ++ [c]) [] = _
                rw [sp_plain' (fun z => hb2 z)]
                simp [sp]
              | cons d t =>
                have : l.drop (k + 2) = t := by
                  have h3 : l.drop (k + 2) = (l.drop (k + 1)).drop 1 := by rw [List.drop_drop]
                  rw [h3, hr]
                  rfl
                rw [this, sp_cons2, if_neg hb2, if_pos h92, h92]
                rfl
          · refine ⟨1, by rw [if_neg h92], ?_, by omega, ?_⟩
            · rw [sl_mid (by omega) (by omega) (by omega), Int.toNat_natCast, show (((k : Nat) : Int) + ((1 : Nat) : Int) - ((k : Nat) : Int)).toNat = 1 by omega]
            · rw [hd, sp_plain _ _ hb2 h92]
              rfl
        obtain ⟨sz, hsz, hsl, hk2, hsp2⟩ := hstep
        have hsz1 : 1 ≤ sz ∧ sz ≤ 2 := by split at hsz <;> omega
        have htl : ((l.drop k).take sz).length ≤ sz := by rw [List.length_take]; omega
        refine q_asgV (m := n) (v := .int ((sz : Nat) : Int)) (ev_is (ev_ifV (b := decide (c = 92)) (v := .int 2) (w := .int 1) (et_is (et_test (ev_op2 (m := n) (hix B pc x) (ev_str (l := [92]) (by decide +kernel)) fun H3 _ => rv_eqS)) (decide_eq_decide.mpr (by simp))) (fun _ => ev_c) (fun _ => ev_c)) ?_) ?_
        · rw [hsz]
          by_cases h92 : c = 92
          · rw [decide_eq_true h92, if_pos rfl, if_pos h92]; rfl
          · rw [decide_eq_false h92, if_neg (by decide), if_neg h92]; rfl
        refine q_asgV (m := n) (v := sv (pc ++ (l.drop k).take sz)) (ev_op2 (m := n) (ev_var rfl) (ev_is (ev_sl (m := n) (k := n) (p := is (sv l)) (ev_var rfl) (eo_some (ev_var rfl)) (eo_some (ev_op2 (m := n) (ev_var rfl) (ev_var rfl) fun H3 _ => rv_addI)) fun x H3 _ hx => by rw [show x = sv l from hx]; exact rs_S (by omega)) (by rw [hsl])) fun H3 _ => rv_addS (by omega)) ?_
        refine s_asgV (m := n) (v := .int ((k + sz - 1 : Nat) : Int)) (ev_is (ev_op2 (m := n) (ev_op2 (m := n) (ev_var rfl) (ev_var rfl) fun H3 _ => rv_addI) ev_c fun H3 _ => rv_subI) (by congr 1; omega)) fun H4 e4 => ?_
        dsimp only
        refine StF.run (R := R) (n := n) (H := H4) ?_ e4.1
        refine s_asgV (m := n) (hinc _ _ _ _) fun H5 e5 => ⟨l.length + 1 - (k + sz), by omega, k + sz, done, pc ++ (l.drop k).take sz, some (.int ((sz : Nat) : Int)), ?_, (own.step e4).step e5, rfl, hk2, by omega, by rw [List.length_append]; omega, by rw [hsp2, hsp]⟩
        rw [show k + sz - 1 + 1 = k + sz by omega]
        rfl
    · have hge : ¬ k < l.length := of_decide_eq_false hb
      have hnil : l.drop k = [] := List.drop_eq_nil_of_le (by omega)
      rw [hnil] at hsp
      refine s_ret (m := n) (p := lstG (· = (sp mk [] l).map sv)) ?_ fun v H2 e2 hv => q v H2 ⟨e2.1, own.pr.trans e2.2⟩ hv
      rw [← hsp, List.map_append]
      exact ev_catV (ev_varP rfl ⟨F, _, rfl, ⟨own.hF, own.m⟩, rfl⟩) (ev_lstV (vs := [sv pc]) (ea_cons (ev_var rfl) ea_nil) (by show 1 ≤ 100000; decide)) (by rw [List.length_map]; show _ + 1 ≤ _; omega)

end
end My
namespace My
open PySem PySem.Spec PyProof.Rows L2
section
variable {P : Program} [hP : OkP fileS P] {w : World} {K : PySem.W.Frag} {mg : Str → Option Value} {base : Heap}
/-! ### _law_bare -/
abbrev N0_l_bare : List Str := ["_law_raw", "_law_found", "_law_bare_here", "_law_k", "_law_at", "_law_sign", "_law_must"]
theorem sc0_l_bare : FnScope N0_l_bare ["_law_raw"] (defScope s_l_bare) := ⟨rfl, rfl, rfl, by decide +kernel, rfl, by decide +kernel, by decide +kernel⟩
-- slots: 0 _law_raw, 1 _law_found, 2 _law_bare_here, 3 _law_k, 4 _law_at, 5 _law_sign, 6 _law_must
def bareV (l : Codes) : V := match bareL l with
  | some f => sv f
  | none => .non
def sp_l_bare : Sp := pureSp (fun (l : Codes) _ vs _ => vs = [sv l] ∧ l.length ≤ 20000) (fun l => is (bareV l))
theorem mustF_len (n : Nat) : ∀ (i : Nat) (l : Codes), (mustF n i l).length = l.length
  | _, [] => rfl
  | i, c :: r => by unfold mustF; rw [List.length_cons, mustF_len n (i + 1) r, List.length_cons]
theorem mustF_at (n : Nat) : ∀ (i r : Nat) (l : Codes) {c : Nat}, l[r]? = some c → (mustF n i l)[r]? = some (must n (i + r) c)
  | _, _, [], _, h => by cases h
  | i, 0, c :: t, d, h => by
    cases h
    rfl
  | i, r + 1, c :: t, d, h => by
    have := mustF_at n (i + 1) r t (c := d) h
    unfold mustF
    rw [List.getElem?_cons_succ, this, show i + 1 + r = i + (r + 1) by omega]
theorem take_eq {α : Type} {a b : List α} {r : Nat} {x : α} (h : a.take r = b.take r) (ha : a[r]? = some x) (hb : b[r]? = some x) : a.take (r + 1) = b.take (r + 1) := by
  rw [List.take_add_one, List.take_add_one, h, ha, hb]
theorem bare1_plain {c : Nat} (r : Codes) (h : c ≠ 92) : bare1 (c :: r) = (bare1 r).map fun q => (c :: q.1, false :: q.2) := by
  cases r with
  | nil => conv => lhs; unfold bare1
           rw [if_neg h]; rfl
  | cons d t => conv => lhs; unfold bare1
                rw [if_neg h]
theorem atI_last {α : Type} {xs : List α} {x : α} : atI (xs ++ [x]) (-1) = some x := by
  unfold atI ixN
  rw [if_neg (by decide)]
  simp only [List.length_append, List.length_singleton]
  rw [if_pos (by omega), show (((-1 : Int) + ((xs.length + 1 : Nat) : Int))).toNat = xs.length by omega]
  simp
theorem c0_l_bare (T : Tx K mg) : Cal P w K mg base 1 "_law_bare" ["_law_raw"] (sp_l_bare) := by
  refine T.d_l_bare.cal sc0_l_bare (fun vs H Q E h => ?_) (fun _ _ _ _ _ _ us hl => match us, hl with | [_], _ => rfl) (fun f cdv A outer s H vs Q E hr h => ?_)
  · obtain ⟨R, n, x, _, ⟨rfl, _⟩, _⟩ := h
    rfl
  · obtain ⟨R, n, l, hj, ⟨rfl, hl⟩, q⟩ := h
    refine ⟨_, (pss_cons (ps_par3 (i := 1) (j := 2) (l := 3) (by rfl) sc0_l_bare.nd rfl rfl rfl (by decide) (by decide) (by decide) rfl rfl rfl (pa_cons pe_str (pa_cons (pe_lst pa_nil) (pa_cons pe_int pa_nil))) (by rfl))
      (pss_cons (ps_while PassesOwn.never (pt_cmpR cm_Lt (pv 3) (pe_callB (call_lenA (K := K)) (by rfl) T.b_len (by decide +kernel) (pa_cons (pv 0) pa_nil)) (nomark _))
      (pss_cons (ps_expr (pe_bmK (K := K) PySem.F.plainAttrs_list PySem.F.slot_list_append PySem.F.type_list_append mt_append (pv 2) (pa_cons (pe_cmpR (cm_NotEq (K := K) hr.units) (pe_ix (ix_any (K := K)) (pv 0) (pv 3) (fun _ _ => rfl)) pe_str (nomark _)) pa_nil)))
      (pss_cons (ps_set (i := 3) sc0_l_bare.nd rfl (by first | exact Or.inl rfl | exact Or.inr rfl) (pe_op (op_Add (K := K)) (pv 3) (pe_callTy call_intA (by rfl) T.b_int (by decide +kernel) (pa_cons (pe_not (pe_ix (ix_any (K := K)) (pv 2) (pe_un un_neg pe_int) (fun _ _ => rfl))) pa_nil))))
      (pss_cons (ps_if (pt_cmpR (cm_Eq (K := K) hr.units) (pv 3) (pe_callB (call_lenA (K := K)) (by rfl) T.b_len (by decide +kernel) (pa_cons (pv 0) pa_nil)) (nomark _)) (pss_one (ps_ret pe_non)) pss_nil)
      (pss_cons (ps_set (i := 1) sc0_l_bare.nd rfl (by first | exact Or.inl rfl | exact Or.inr rfl) (pe_op (op_Add (K := K)) (pv 1) (pe_ix (ix_any (K := K)) (pv 0) (pv 3) (fun _ _ => rfl))))
      (pss_one (ps_set (i := 3) sc0_l_bare.nd rfl (by first | exact Or.inl rfl | exact Or.inr rfl) (pe_op (op_Add (K := K)) (pv 3) pe_int))))))))
      (pss_cons (ps_for PassesOwn.never rfl (pi_enumA (K := K) (by rfl) T.b_enumerate (pa_cons (pv 1) pa_nil)) (pg_tupK (K := K) (n := 2) rfl (pgs_cons (pg_name (i := 4) sc0_l_bare.nd rfl (by first | exact Or.inl rfl | exact Or.inr rfl)) (pgs_cons (pg_name (i := 5) sc0_l_bare.nd rfl (by first | exact Or.inl rfl | exact Or.inr rfl)) pgs_nil)))
      (pss_cons (ps_set (i := 6) sc0_l_bare.nd rfl (by first | exact Or.inl rfl | exact Or.inr rfl) (pe_or (pe_cmpR (cm_In (K := K) (hu65 hr)) (pv 5) (pe_lst (pa_cons pe_str (pa_cons pe_str (pa_cons pe_str (pa_cons pe_str pa_nil))))) (by rfl)) (pe_one (pe_and (pe_cmpR (cm_Eq (K := K) hr.units) (pv 5) pe_str (nomark _)) (pe_one (pe_cmpR (cm_In (K := K) (hu65 hr)) (pv 4) (pe_lst (pa_cons pe_int (pa_cons (pe_op op_sub (pe_callB (call_lenA (K := K)) (by rfl) T.b_len (by decide +kernel) (pa_cons (pv 1) pa_nil)) pe_int) pa_nil))) (by rfl)))))))
      (pss_one (ps_if (pt_cmpR (cm_Eq (K := K) hr.units) (pe_ix (ix_any (K := K)) (pv 2) (pv 4) (fun _ _ => rfl)) (pv 6) (nomark _)) (pss_one (ps_ret pe_non)) pss_nil))))
      (pss_one (ps_ret (pv 1)))))), ?_⟩
    refine StF.run (R := R) (n := n) ?_ hj
    refine q_asg3b (u := sv []) (w := .int ((0 : Nat) : Int)) hj (ev_str (c := "") (l := []) (by decide +kernel)) (fun B _ => ev_c) fun F B0 o0 => ?_
    refine q_whileH (fun m σ' H' => ∃ (k : Nat) (f : Codes) (fl : List Bool), σ' = [some (sv l), some (sv f), some (.ref F), some (.int (k : Nat)), none, none, none] ∧ OwnL R n H F (fl.map fun b => .bl (!b)) H' ∧ m = l.length - k ∧ k ≤ l.length ∧ fl.length ≤ k ∧ f.length ≤ k ∧ (bare1 (l.drop k)).map (fun q => (f ++ q.1, fl ++ q.2)) = bare1 l) l.length (fun H3 e3 => ⟨0, [], [], rfl, o0.step e3, rfl, Nat.zero_le _, Nat.le_refl _, Nat.le_refl _, by simp⟩) fun m σ' B hW => ?_
    obtain ⟨k, f, fl, rfl, own, rfl, hk, hfl, hfk, hbr⟩ := hW
    refine ⟨own.J, decide (k < l.length), et_is (et_test (ev_op2 (m := n) (ev_var rfl) (ev_lenS (ev_var rfl) (by omega)) fun H3 _ => rv_ltI)) (decide_eq_decide.mpr (by omega)), fun hb => ?_, fun hb => ?_⟩
    · have hlt : k < l.length := of_decide_eq_true hb
      have hc : l[k]? = some l[k] := List.getElem?_eq_getElem hlt
      generalize l[k] = c at hc
      have hd := drop_at hc
      refine StF.seq (s_appV own.hF own.m rfl (v := .bl (!decide (c = 92))) (ev_is (ev_op2 (m := n) (ev_op2 (m := n) (ev_var rfl) (ev_var rfl) fun H3 _ => rv_ixS (by omega) (at_nat hc)) (ev_str (l := [92]) (by decide +kernel)) fun H3 _ => rv_neS) (by congr 2; exact decide_eq_decide.mpr (by simp))) (by rw [List.length_map]; omega) fun H3 e3 => ?_)
      have o3 : OwnL R n H F ((fl ++ [decide (c = 92)]).map fun b => .bl (!b)) (upd H3 F (.lst ((fl.map fun b => V.bl (!b)) ++ [.bl (!decide (c = 92))]))) := by
        rw [List.map_append]
        exact (own.step e3).put
      dsimp only
      refine StF.run (R := R) (n := n) (H := upd H3 F (.lst ((fl.map fun b => V.bl (!b)) ++ [.bl (!decide (c = 92))]))) ?_ o3.J
      generalize upd H3 F (.lst ((fl.map fun b => V.bl (!b)) ++ [.bl (!decide (c = 92))])) = B2 at o3 ⊢
      have hlast : EvP R n n (tOp (rIx K) (tVar 2) (tUn (rU fun i => .int (-i)) (tC (.int 1)))) [some (sv l), some (sv f), some (.ref F), some (.int (k : Nat)), none, none, none] B2 (is (.bl (!decide (c = 92)))) := ev_op2 (m := n) (ev_var rfl) (ev_neg ev_c) fun H4 e4 => rv_ixL (xs := ((fl ++ [decide (c = 92)]).map fun b => V.bl (!b))) (.inl (.inl (e4.2 _ _ o3.m o3.hF))) (by rw [List.map_append]; exact atI_last)
      have hk2 : ∃ k2 : Nat, k2 = k + (if c = 92 then 1 else 0) := ⟨_, rfl⟩
      obtain ⟨k2, hk2⟩ := hk2
      refine q_asgV (m := n) (v := .int ((k2 : Nat) : Int)) (ev_is (ev_op2 (m := n) (ev_var rfl) (ev_intB (ev_notV hlast)) fun H4 _ => rv_addI) ?_) ?_
      · congr 1
        rw [hk2, Bool.not_not]
        by_cases h92 : c = 92
        · rw [if_pos h92, decide_eq_true h92]; simp
        · rw [if_neg h92, decide_eq_false h92]; simp
      have hk3 : k2 ≤ k + 1 ∧ k ≤ k2 := by split at hk2 <;> omega
      refine q_whenB (m := n) (b := decide (k2 = l.length)) (et_is (et_test (ev_op2 (m := n) (ev_var rfl) (ev_lenS (ev_var rfl) (by omega)) fun H4 _ => rv_eqI)) (decide_eq_decide.mpr (by omega))) (fun hb2 => ?_) (fun hb2 => ?_)
      · have hb2 := of_decide_eq_true hb2
        refine s_ret (m := n) (p := is (bareV l)) (ev_is ev_c ?_) fun v H4 e4 hv => q v H4 ⟨e4.1, o3.pr.trans e4.2⟩ hv
        have h92 : c = 92 := by
          refine Classical.byContradiction fun z => ?_
          rw [if_neg z] at hk2
          omega
        have hnil : l.drop (k + 1) = [] := List.drop_eq_nil_of_le (by rw [if_pos h92] at hk2; omega)
        have hb0 : bare1 (l.drop k) = none := by
          rw [hd, hnil, h92]
          rfl
        rw [hb0] at hbr
        unfold bareV bareL
        rw [← hbr]
        rfl
      · have hb2 := of_decide_eq_false hb2
        have hk4 : k2 < l.length := by omega
        have hc2 : l[k2]? = some l[k2] := List.getElem?_eq_getElem hk4
        generalize l[k2] = d at hc2
        refine q_asgV (m := n) (v := sv (f ++ [d])) (ev_op2 (m := n) (ev_var rfl) (ev_op2 (m := n) (ev_var rfl) (ev_var rfl) fun H3 _ => rv_ixS (by omega) (at_nat hc2)) fun H3 _ => rv_addS (by simp; omega)) ?_
        refine s_asgV (m := n) (v := .int ((k2 + 1 : Nat) : Int)) (ev_is (ev_op2 (m := n) (ev_var rfl) ev_c fun H3 _ => rv_addI) (by congr 1)) fun H5 e5 => ⟨l.length - (k2 + 1), by omega, k2 + 1, f ++ [d], fl ++ [decide (c = 92)], rfl, o3.step e5, rfl, by omega, by simp; omega, by simp; omega, ?_⟩
        rw [← hbr, hd]
        by_cases h92 : c = 92
        · rw [if_pos h92] at hk2
          subst hk2
          have hd2 := drop_at hc2
          rw [hd2, h92]
          conv => rhs; unfold bare1
          rw [if_pos rfl, Option.map_map]
          congr 1
          funext q
          simp
        · rw [if_neg h92] at hk2
          have hk2 : k2 = k := hk2
          subst hk2
          rw [hc] at hc2
          cases hc2
          rw [bare1_plain _ h92, Option.map_map, decide_eq_false h92]
          congr 1
          funext q
          simp
    · have hge : ¬ k < l.length := of_decide_eq_false hb
      have hnil : l.drop k = [] := List.drop_eq_nil_of_le (by omega)
      rw [hnil] at hbr
      have hbr : some (f, fl) = bare1 l := by rw [← hbr]; simp [bare1]
      obtain ⟨hlen, hlen2⟩ := bare1_lens hbr.symm
      refine q_forE (a := f) (ev_var rfl) (fun r σ' => (∃ x y z, σ' = [some (sv l), some (sv f), some (.ref F), some (.int (k : Nat)), x, y, z]) ∧ fl.take r = (mustF f.length 0 f).take r) ⟨⟨none, none, none, rfl⟩, rfl⟩ (fun B2 r c σ' eb hc hI => ?_) (fun σ' hI => ?_)
      · obtain ⟨⟨x, y, z, rfl⟩, hpre⟩ := hI
        have o2 := own.step eb
        have hr := (List.getElem?_eq_some_iff.mp hc).1
        have hfr : fl[r]? = some fl[r] := List.getElem?_eq_getElem (by omega)
        generalize fl[r] = b at hfr
        refine q_asgV (m := n) (v := .bl (must f.length r c)) (ev_is (ev_orV (ev_inT (m := n) (ws := [[44], [43], [61], [92]]) (w := [c]) (ev_var rfl) (ev_lstV (vs := [sv [44], sv [43], sv [61], sv [92]]) (ea_cons (m := n) (ev_str (by decide +kernel)) (ea_cons (m := n) (ev_str (by decide +kernel)) (ea_cons (m := n) (ev_str (by decide +kernel)) (ea_cons (m := n) (ev_str (by decide +kernel)) ea_nil)))) (by show 4 ≤ 100000; decide))) fun _ => ev_andV (ev_op2 (m := n) (ev_var rfl) (ev_str (l := [32]) (by decide +kernel)) fun H3 _ => rv_eqS) fun _ => ev_op (m := n) (s := is (.bl (decide (r = 0 ∨ r + 1 = f.length)))) (ev_var rfl) (ev_lstV (vs := [.int 0, .int ((f.length : Nat) - 1 : Int)]) (ea_cons (m := n) ev_c (ea_cons (m := n) (ev_op2 (m := n) (ev_lenS (ev_var rfl) (by omega)) ev_c fun H3 _ => rv_subI) ea_nil)) (by show 2 ≤ 100000; decide)) fun u v H3 e3 hu hv => ?_) ?_) ?_
        · have hu : u = .int (r : Nat) := hu
          subst hu
          obtain ⟨p, xs, rfl, hp, rfl⟩ := hv
          refine fun _ jj Q f2 => .inr (.inl ⟨p, _, rfl, .inl hp.sq, rfl, rfl, f2 _ H3 (R.self jj) ?_⟩)
          show V.bl (inV (.int (r : Nat)) [.int 0, .int ((f.length : Nat) - 1 : Int)]) = V.bl _
          congr 1
          unfold inV
          rw [List.any_cons, List.any_cons, List.any_nil, Bool.or_false]
          show (((0 : Int) == (r : Int)) || (((f.length : Int) - 1) == (r : Int))) = _
          rw [Bool.decide_or]
          congr 1
          · by_cases h : r = 0
            · rw [h, decide_eq_true rfl]; rfl
            · rw [decide_eq_false h, beq_eq_false_iff_ne]; omega
          · by_cases h : r + 1 = f.length
            · rw [decide_eq_true h, beq_iff_eq]; omega
            · rw [decide_eq_false h, beq_eq_false_iff_ne]; omega
        · congr 1
          unfold must
          congr 1
          · exact decide_eq_decide.mpr (by simp)
          · congr 1
            exact decide_eq_decide.mpr (by simp)
        · refine s_when (m := n) (G := fun z => z = ((!b) == must f.length r c)) (et_test (ev_op2 (m := n) (ev_op2 (m := n) (x := .ref F) (y := .int (r : Nat)) (ev_var rfl) (ev_var rfl) fun H3 e3 => rv_ixL (v := .bl (!b)) (.inl (.inl (e3.2 _ _ o2.m o2.hF))) (at_nat (by rw [List.getElem?_map, hfr]; rfl))) (ev_var rfl) fun H3 _ => rv_eqB)) (fun hz => ?_) (fun hz H4 e4 => ?_)
          · refine s_ret (m := n) (p := is (bareV l)) (ev_is ev_c ?_) fun v H4 e4 hv => q v H4 ⟨e4.1, o2.pr.trans e4.2⟩ hv
            unfold bareV bareL
            rw [← hbr]
            dsimp only
            rw [if_neg]
            intro e
            have h1 := mustF_at f.length 0 r f hc
            rw [← e, hfr, Nat.zero_add] at h1
            rw [← Option.some.inj h1] at hz
            cases b <;> cases hz
          · refine ⟨e4, ⟨_, _, _, rfl⟩, ?_⟩
            refine take_eq hpre hfr ?_
            rw [mustF_at f.length 0 r f hc, Nat.zero_add]
            have : must f.length r c = b := by
              cases b <;> cases hm : must f.length r c <;> rw [hm] at hz <;> first | rfl | cases hz
            rw [this]
      · obtain ⟨⟨x, y, z, rfl⟩, hpre⟩ := hI
        refine s_ret (m := n) (p := is (bareV l)) (ev_is (ev_var rfl) ?_) fun v H4 e4 hv => q v H4 ⟨e4.1, own.pr.trans e4.2⟩ hv
        unfold bareV bareL
        rw [← hbr]
        dsimp only
        rw [List.take_of_length_le (by omega), List.take_of_length_le (by rw [mustF_len]; exact Nat.le_refl _)] at hpre
        rw [if_pos hpre]

end
end My
namespace My
open PySem PySem.Spec PyProof.Rows L2
section
variable {P : Program} [hP : OkP fileS P] {w : World} {K : PySem.W.Frag} {mg : Str → Option Value} {base : Heap}
abbrev N0_l_leaf : List Str := ["_law_line_here", "_law_pairs", "_law_piece", "_law_two", "_law_told", "_law_pair"]
theorem sc0_l_leaf : FnScope N0_l_leaf ["_law_line_here"] (defScope s_l_leaf) := ⟨rfl, rfl, rfl, by decide +kernel, rfl, by decide +kernel, by decide +kernel⟩
-- slots: 0 _law_line_here, 1 _law_pairs, 2 _law_piece, 3 _law_two, 4 _law_told, 5 _law_pair
def leafO (K : PySem.W.Frag) : Option (List Pair) → SP
  | none => is .non
  | some ps => lstP (pairSP K) ps
def sp_l_leaf (K : PySem.W.Frag) : Sp := pureSp (fun (l : Codes) _ vs _ => vs = [sv l] ∧ l.length ≤ 20000) (fun l => leafO K (lawLeaf l))
theorem leafL_drop {ps : List Pair} {PS : List Codes} {i : Nat} {p : Codes} (h : PS[i]? = some p) : leafL ps (PS.drop i) = match pairLaw p with
    | none => none
    | some q => if q.1 ∈ ps.map Prod.fst then none else leafL (ps ++ [q]) (PS.drop (i + 1)) := by
  obtain ⟨hl, e⟩ := List.getElem?_eq_some_iff.mp h
  rw [List.drop_eq_getElem_cons hl, e, leafL_cons]
  all_goals (cases pairLaw p <;> rfl)
/-- what the pieces of a pair tell -/
def toldV (tw : List Codes) : V := match tw with
  | [_, raw] => bareV raw
  | _ => .non
theorem pairLaw_told {p : Codes} : pairLaw p = match sp 61 [] p with
    | [w, raw] => (match bareL raw with
      | some v => if isWordL w && isTextL v then some (w, v) else none
      | none => none)
    | _ => none := rfl
theorem ev_isiL {α : Type} {R : Rel} {n m k : Nat} {σ : L2.St} {H : Hp} {ta tb : TE} {xs : List V} {i : Int} {v : V} (ha : EvP R n m ta σ H (lstG (· = xs))) (hb : EvP R m k tb σ H (is (.int i))) (h : atI xs i = some v) : EvP R n k (tOp (rIx K) ta tb) σ H (is v) :=
  ev_op ha hb fun x y H1 e hx hy _ j Q f => by
    obtain ⟨l, ws, rfl, hl, rfl⟩ := hx
    have hy : y = .int i := hy
    subst hy
    exact .inl ⟨l, ws, i, v, rfl, rfl, hl.sq, h, f v H1 (R.self j) rfl⟩
theorem ev_lenG {R : Rel} {n m : Nat} {σ : L2.St} {H : Hp} {te : TE} {xs : List V} (ha : EvP R n m te σ H (lstG (· = xs))) : EvP R n m (tCB (rLenU K) (tCons te tNil)) σ H (is (.int xs.length)) := ev_len1 ha fun v H1 e hv => by
  obtain ⟨l, ws, rfl, h, rfl⟩ := hv
  exact .inl ⟨ws, h.sq, rfl⟩
theorem c0_l_leaf (T : Tx K mg) : Cal P w K mg base 2 "_law_leaf" ["_law_line_here"] (sp_l_leaf K) := by
  have C_l_split := c0_l_split (P := P) (w := w) (base := base) T
  have C_l_bare := c0_l_bare (P := P) (w := w) (base := base) T
  have C_l_is_text := c0_l_is_text (P := P) (w := w) (base := base) T
  have C_l_is_word := c0_l_is_word (P := P) (w := w) (base := base) T
  refine T.d_l_leaf.cal sc0_l_leaf (fun vs H Q E h => ?_) (fun _ _ _ _ _ _ us hl => match us, hl with | [_], _ => rfl) (fun f cdv A outer s H vs Q E hr h => ?_)
  · obtain ⟨R, n, x, _, ⟨rfl, _⟩, _⟩ := h
    rfl
  · obtain ⟨R, n, l, hj, ⟨rfl, hl⟩, q⟩ := h
    refine ⟨_, (pss_cons (ps_set (i := 1) sc0_l_leaf.nd rfl (by first | exact Or.inl rfl | exact Or.inr rfl) (pe_lst pa_nil))
      (pss_cons (ps_for PassesOwn.never rfl (pi_any (K := K) (pe_callC C_l_split (hr.mono (by decide)) (by rfl) (pa_cons (pv 0) (pa_cons pe_str pa_nil)))) (pg_name (i := 2) sc0_l_leaf.nd rfl (by first | exact Or.inl rfl | exact Or.inr rfl))
      (pss_cons (ps_set (i := 3) sc0_l_leaf.nd rfl (by first | exact Or.inl rfl | exact Or.inr rfl) (pe_callC C_l_split (hr.mono (by decide)) (by rfl) (pa_cons (pv 2) (pa_cons pe_str pa_nil))))
      (pss_cons (ps_set (i := 4) sc0_l_leaf.nd rfl (by first | exact Or.inl rfl | exact Or.inr rfl) (pe_ifExp (pt_cmpR (cm_Eq (K := K) hr.units) (pe_callB (call_lenA (K := K)) (by rfl) T.b_len (by decide +kernel) (pa_cons (pv 3) pa_nil)) pe_int (nomark _)) (pe_callC C_l_bare (hr.mono (by decide)) (by rfl) (pa_cons (pe_ix (ix_any (K := K)) (pv 3) pe_int (fun _ _ => rfl)) pa_nil)) pe_non))
      (pss_cons (ps_if (PW.pt (pw_or (pt_cmpR cm_Is (pv 4) pe_non (nomark _)) (pw_or (pt_not (pt_val (pe_callC C_l_is_word (hr.mono (by decide)) (by rfl) (pa_cons (pe_ix (ix_any (K := K)) (pv 3) pe_int (fun _ _ => rfl)) pa_nil)))) (pw_or1 (pt_not (pt_val (pe_callC C_l_is_text (hr.mono (by decide)) (by rfl) (pa_cons (pv 4) pa_nil)))))))) (pss_one (ps_ret pe_non)) pss_nil)
      (pss_cons (ps_if (pt_cmpR (cm_In (K := K) (hu65 hr)) (pe_ix (ix_any (K := K)) (pv 3) pe_int (fun _ _ => rfl)) (pe_lc (own := [("_law_pair", 5)]) (by rfl) sc0_l_leaf.nd (pi_any (K := K) (pv 1)) (blkOk_by (own := [("_law_pair", 5)]) (N := N0_l_leaf) (sc := defScope s_l_leaf) (by decide +kernel)) (fun _ _ _ _ _ => (pg_name (i := 5) sc0_l_leaf.nd rfl (by first | exact Or.inl rfl | exact Or.inr rfl))) (fun _ _ _ _ _ => pts_nil) (fun _ _ _ _ _ => (pe_ix (ix_any (K := K)) (pv 5) pe_int (fun _ _ => rfl)))) (by rfl)) (pss_one (ps_ret pe_non)) pss_nil)
      (pss_one (ps_expr (pe_bmK (K := K) PySem.F.plainAttrs_list PySem.F.slot_list_append PySem.F.type_list_append mt_append (pv 1) (pa_cons (pe_tup (pa_cons (pe_ix (ix_any (K := K)) (pv 3) pe_int (fun _ _ => rfl)) (pa_cons (pv 4) pa_nil))) pa_nil)))))))))
      (pss_one (ps_ret (pe_ifExp (pt_cmpR cm_LtE (pe_callB (call_lenA (K := K)) (by rfl) T.b_len (by decide +kernel) (pa_cons (pv 1) pa_nil)) pe_int (nomark _)) (pv 1) pe_non))))), ?_⟩
    refine StF.run (R := R) (n := n) ?_ hj
    refine StF.seq (s_asgE fun F H1 e1 hF => ?_)
    have o1 : OwnL R n H F [] (upd H1 F (.lst [])) := OwnL.new hj e1 hF
    generalize upd H1 F (.lst []) = B1 at o1 ⊢
    dsimp only
    have jF : (R.at F []).J n B1 := ⟨o1.J, o1.hF⟩
    refine StF.run (R := R.at F []) (n := n) (H := B1) ?_ jF
    have hsplit : ∀ (R' : Rel) (B : Hp) (σ : L2.St) (i : Nat) (c : Str) (mk : Nat) (p : Codes), σ[i]? = some (some (sv p)) → c = SX.S [mk] → mk ≠ 92 → p.length ≤ 20000 → EvP R' n n (tCall (sp_l_split K) [] E0 (tCons (tVar i) (tCons (tC (.str c)) tNil))) σ B (lstG (· = (sp mk [] p).map sv)) := fun R' B σ i c mk p hi hc hm hp => ev_pure (post := fun x : Nat × Codes => lstG (· = (sp x.1 [] x.2).map sv)) (mk, p) (ea_cons (ev_var hi) (ea_cons (ev_str hc) ea_nil)) fun vs H1 _ hv => by
      obtain ⟨v, u, rfl, hv1, hv2⟩ := two hv
      exact ⟨by rw [show v = _ from hv1, show u = _ from hv2], hm, hp⟩
    generalize hPS : sp 43 [] l = PS
    have hmany : PS.length ≤ l.length + 1 := by rw [← hPS]; exact sp_many 43 l
    have hPl : ∀ p ∈ PS, p.length ≤ l.length := fun p hp => sp_len (m := 43) (by rw [hPS]; exact hp)
    have hit : ItP (R.at F []) n n (iAny K (tCall (sp_l_split K) [] E0 (tCons (tVar 0) (tCons (tC (.str "+")) tNil)))) [some (sv l), some (.ref F), none, none, none, none] B1 ((PS.map sv).map is) := by
      rw [← hPS]
      exact it_lstV (K := K) (hsplit _ _ _ 0 _ 43 l rfl (by decide +kernel) (by decide) hl)
    have qn : leafL [] PS = none → ∀ v H2, R.ok n H H2 → (is .non).P R.M v H2 → Q v H2 := fun hz v H2 e2 hv => q v H2 e2 (by
      show (leafO K (lawLeaf l)).P R.M v H2
      unfold lawLeaf
      rw [hPS, hz]
      exact hv)
    refine StF.seq (s_for2 (R := R.off F) (c := fun _ => n) (c1 := n) (fun _ m => m) hit (fun B i σ' H' => (R.off F).ok n B H' ∧ ∃ (xs : List V) (ps : List Pair) (x2 x3 x4 : Option V), σ' = [some (sv l), some (.ref F), x2, x3, x4, none] ∧ OwnL R n H F xs H' ∧ Paired (fun v q => pairF H v q H') xs ps ∧ ps.length = i ∧ leafL ps (PS.drop i) = leafL [] PS) (fun B i σ' H' h => h.1) (fun B eB => ⟨⟨⟨eB.1.1, _, eB.1.2⟩, pres.refl B⟩, [], [], none, none, none, rfl, ⟨hj, eB.1.1, fun a o ma ha => ?_, o1.f0, eB.1.2⟩, .nil, rfl, rfl⟩) (fun B i y σ' H' x H'' eB hy hPv er hx => ?_) (fun B σ' H' eB hPv => ?_))
    · have ne : a ≠ F := fun z => by rw [z, o1.f0] at ha; cases ha
      exact eB.2 a o (fun z => z.elim ma ne) (o1.pr a o ma ha)
    · -- a turn
      obtain ⟨eBH, xs, ps, x2, x3, x4, rfl, own, hps, hi, hlf⟩ := hPv
      rw [List.getElem?_map, List.getElem?_map] at hy
      obtain ⟨u, hu, rfl⟩ := Option.map_eq_some_iff.mp hy
      obtain ⟨p, hp, rfl⟩ := Option.map_eq_some_iff.mp hu
      have hx : x = sv p := hx
      subst hx
      have own2 := own.step (R.ex own.J er)
      have kT : ∀ {Ha Hb : Hp}, R.ok n Ha Hb → keepT H Ha Hb := fun e a vs h0 ha => e.2 a _ (R.fresh hj h0) ha
      have hps2 : Paired (fun v q => pairF H v q H'') xs ps := Paired_imp (fun _ _ z => (kT (R.ex own.J er)).pr1 z) hps
      have hlen : xs.length = ps.length := hps.length
      have hpl := hPl p (List.mem_of_getElem? hp)
      have hi2 := (List.getElem?_eq_some_iff.mp hp).1
      rw [leafL_drop hp] at hlf
      have eB2 : (R.off F).ok n B H'' := (R.off F).trans eBH ((R.off F).ex eBH.1 er)
      dsimp only [gName]
      refine StF.run (R := R) (n := n) (H := H'') ?_ own2.J
      refine q_asg (m := n) (p := lstG (· = (sp 61 [] p).map sv)) (hsplit _ _ _ 2 _ 61 p rfl (by decide +kernel) (by decide) (by omega)) fun t H2 e2 ht => ?_
      have own3 := own2.step e2
      have hps3 : Paired (fun v q => pairF H v q H2) xs ps := Paired_imp (fun _ _ z => (kT e2).pr1 z) hps2
      have eB3 : (R.off F).ok n B H2 := ⟨⟨own3.J, _, own3.hF⟩, eB2.2.trans (e2.2.wider fun a m => .inl m)⟩
      have hpT := pairLaw_told (p := p)
      have htwl : ∀ w ∈ sp 61 [] p, w.length ≤ l.length := fun w hw => Nat.le_trans (sp_len hw) hpl
      generalize hTW : sp 61 [] p = tw at *
      have htwo : ∀ (x4 : Option V), EvP R n n (tVar 3) [some (sv l), some (.ref F), some (sv p), some t, x4, none] H2 (lstG (· = tw.map sv)) := fun x4 => ev_varP rfl ht
      have htold : EvP R n n (tIf (tTest (tOp (rEqU K) (tCB (rLenU K) (tCons (tVar 3) tNil)) (tC (.int 2)))) (tCall sp_l_bare [] E0 (tCons (tOp (rIx K) (tVar 3) (tC (.int 1))) tNil)) (tC .non)) [some (sv l), some (.ref F), some (sv p), some t, x4, none] H2 (is (toldV tw)) := by
        refine ev_ifB (m := n) (b := decide (tw.length = 2)) (et_is (et_test (ev_op2 (m := n) (ev_lenG (htwo x4)) ev_c fun H3 _ => rv_eqI)) (decide_eq_decide.mpr (by rw [List.length_map]; omega))) (fun hb => ?_) (fun hb => ?_)
        · have hb := of_decide_eq_true hb
          match tw, hb with
          | [w, raw], _ =>
            exact ev_pure (post := fun l => is (bareV l)) raw (ea_cons (ev_isiL (α := Nat) (v := sv raw) (htwo x4) ev_c (at_nat (i := 1) rfl)) ea_nil) fun vs H1 _ hv => by
              obtain ⟨v, rfl, hv1⟩ := one hv
              exact ⟨by rw [show v = _ from hv1], by have := htwl raw (by simp); omega⟩
        · have hb := of_decide_eq_false hb
          match tw, hb with
          | [], _ => exact ev_c
          | [_], _ => exact ev_c
          | [_, _], hb => exact absurd rfl hb
          | _ :: _ :: _ :: _, _ => exact ev_c
      refine q_asgV (m := n) htold ?_
      have bad : pairLaw p = none → ∀ (ex : L2.St) (D' : Ends), D'.rt = Q → StF R n (tRet (tC .non)) D' ex H2 := fun hz ex D' hD => s_ret (m := n) (p := is .non) ev_c fun v H3 e3 hv => by
        rw [hD]
        rw [hz] at hlf
        exact qn hlf.symm v H3 ⟨e3.1, own3.pr.trans e3.2⟩ hv
      by_cases htv : toldV tw = .non
      · -- it tells nothing
        have hpn : pairLaw p = none := by
          rw [hpT]
          unfold toldV at htv
          split
          · next w raw =>
            dsimp only at htv
            unfold bareV at htv
            cases hb : bareL raw with
            | none => rfl
            | some v => rw [hb] at htv; cases htv
          · rfl
        rw [htv]
        exact q_whenB (m := n) (b := true) (et_is (et_or (a := true) (b := true) (et_is (et_test (ev_op2 (m := n) (ev_var rfl) ev_c fun H3 _ => rv_isN)) rfl) (fun z => nomatch z)) rfl) (fun _ => bad hpn _ _ rfl) (fun z => nomatch z)
      · have hform : ∃ w raw v, tw = [w, raw] ∧ bareL raw = some v := by
          unfold toldV at htv
          split at htv
          · next w raw =>
            unfold bareV at htv
            cases hb : bareL raw with
            | none => rw [hb] at htv; exact absurd rfl htv
            | some v => exact ⟨w, raw, v, rfl, hb⟩
          · exact absurd rfl htv
        obtain ⟨w, raw, v, rfl, hbv⟩ := hform
        have hwl := htwl w (by simp)
        have hvl : v.length ≤ l.length := Nat.le_trans (bareL_len hbv) (htwl raw (by simp))
        have htoldv : toldV [w, raw] = sv v := by
          unfold toldV bareV
          dsimp only
          rw [hbv]
        rw [htoldv]
        dsimp only at hpT
        rw [hbv] at hpT
        dsimp only at hpT
        have hfst : ∀ (B : Hp), B = H2 → EvP R n n (tOp (rIx K) (tVar 3) (tC (.int 0))) [some (sv l), some (.ref F), some (sv p), some t, some (sv v), none] H2 (is (sv w)) := fun B _ => ev_isiL (α := Nat) (htwo _) ev_c (at_nat (i := 0) rfl)
        refine q_whenB (m := n) (b := false || (!isWordL w || !isTextL v)) (et_or (et_is (et_test (ev_op2 (m := n) (ev_var rfl) ev_c fun H3 _ => rv_isN)) rfl) fun _ => et_or (et_not (et_B ?_)) fun _ => et_not (et_B ?_)) (fun hb => bad ?_ _ _ rfl) (fun hb => ?_)
        · exact ev_pure (post := fun l => is (.bl (isWordL l))) w (ea_cons (hfst _ rfl) ea_nil) fun vs H1 _ hv => by
            obtain ⟨v, rfl, hv1⟩ := one hv
            exact ⟨by rw [show v = _ from hv1], by omega⟩
        · exact ev_pure (post := fun l => is (.bl (isTextL l))) v (ea_cons (ev_var (v := sv v) rfl) ea_nil) fun vs H1 _ hv => by
            obtain ⟨v, rfl, hv1⟩ := one hv
            exact ⟨by rw [show v = _ from hv1], by omega⟩
        · rw [hpT, if_neg]
          intro z
          rw [Bool.and_eq_true] at z
          rw [z.1, z.2] at hb
          cases hb
        · have hwt : (isWordL w && isTextL v) = true := by
            cases h1 : isWordL w <;> cases h2 : isTextL v <;> rw [h1, h2] at hb <;> first | rfl | cases hb
          rw [if_pos hwt] at hpT
          rw [hpT] at hlf
          dsimp only at hlf
          refine q_whenB (m := n) (b := decide (w ∈ ps.map Prod.fst)) (et_test (ev_inT (m := n) (hfst _ rfl) ?_)) (fun hb2 => ?_) (fun hb2 => ?_)
          · have hlst : EvP R n n (tVar 1) [some (sv l), some (.ref F), some (sv p), some t, some (sv v), none] H2 (lstP (pairSP K) ps) := ev_varP rfl ⟨F, xs, rfl, ⟨own3.hF, own3.m⟩, Paired_imp (fun _ _ z => z.sp hj) hps3⟩
            have h2 := ev_lcQ (te := tOp (rIx K) (tVar 5) (tC (.int 0))) (vs := [5]) (j := 5) (fun q : Pair => sv q.1) ([], []) (it_lstP (K := K) hlst) (by omega) (fun x => rfl) (fun R' H' a x ex _ hx => by
              obtain ⟨T, ws, rfl, hT, rfl⟩ := hx
              exact ev_op2 (m := n) (ev_var (v := .ref T) rfl) ev_c fun H3 e3 => rv_ixT (hT.st e3.2).sq rfl)
            refine ev_is2 h2 ?_
            rw [List.map_map]
            rfl
          · rw [if_pos (of_decide_eq_true hb2)] at hlf
            exact s_ret (m := n) (p := is .non) ev_c fun v H3 e3 hv => qn hlf.symm v H3 ⟨e3.1, own3.pr.trans e3.2⟩ hv
          · rw [if_neg (of_decide_eq_false hb2)] at hlf
            refine s_appT (vs := [sv w, sv v]) own3.hF own3.m rfl (ea_cons (m := n) (hfst _ rfl) (ea_cons (ev_var rfl) ea_nil)) (by omega) (by show 2 ≤ 100000; decide) fun T H3 e3 hT => ?_
            have own4 := own3.step e3
            have t0 : H T = none := old0 own4.pr hj own4.J hT
            have neT : T ≠ F := fun z => by rw [z, own4.hF] at hT; cases hT
            have own5 : OwnL R n H F (xs ++ [.ref T]) (upd (upd H3 T (.tup [sv w, sv v])) F (.lst (xs ++ [.ref T]))) := (own4.tup hT).put
            have k5 : keepT H H3 (upd (upd H3 T (.tup [sv w, sv v])) F (.lst (xs ++ [.ref T]))) := fun a vs h0 ha => by
              have n1 : a ≠ F := fun z => by rw [z, own4.hF] at ha; cases ha
              have n2 : a ≠ T := fun z => by rw [z, hT] at ha; cases ha
              rw [upd_ne n1, upd_ne n2]
              exact ha
            refine ⟨⟨⟨own5.J, _, own5.hF⟩, eB3.2.trans ((e3.2.wider fun a m => .inl m).trans ((pres.ex (Evl.Ex.new hT)).trans (pres.upd (.inr rfl))))⟩, xs ++ [.ref T], ps ++ [(w, v)], _, _, _, rfl, own5, Paired.snoc (Paired_imp (fun _ _ z => k5.pr1 ((kT e3).pr1 z)) hps3) ⟨T, rfl, t0, by rw [upd_ne neT]; exact upd_same⟩, by simp [hi], hlf⟩
    · -- behind the loop
      obtain ⟨eBH, xs, ps, x2, x3, x4, rfl, own, hps, hi, hlf⟩ := hPv
      rw [List.length_map, List.length_map] at hlf hi
      rw [List.drop_length, leafL_nil] at hlf
      have hlen : xs.length = ps.length := hps.length
      dsimp only
      refine StF.run (R := R) (n := n) (H := H') ?_ own.J
      refine s_ret (m := n) (p := leafO K (lawLeaf l)) ?_ fun v H2 e2 hv => q v H2 ⟨e2.1, own.pr.trans e2.2⟩ hv
      unfold lawLeaf
      rw [hPS, ← hlf]
      dsimp only
      have hlst : EvP R n n (tVar 1) [some (sv l), some (.ref F), x2, x3, x4, none] H' (lstP (pairSP K) ps) := ev_varP rfl ⟨F, xs, rfl, ⟨own.hF, own.m⟩, Paired_imp (fun _ _ z => z.sp hj) hps⟩
      refine ev_ifB (m := n) (b := decide (ps.length ≤ 4)) (et_is (et_test (ev_op2 (m := n) (ev_lenL (ev_var rfl) (SqM.of own.hF own.m)) ev_c fun H3 _ => rv_leI)) (decide_eq_decide.mpr (by omega))) (fun hb => ?_) (fun hb => ?_)
      · rw [if_pos (of_decide_eq_true hb)]
        exact hlst
      · rw [if_neg (of_decide_eq_false hb)]
        exact ev_c

end
end My
namespace My
open PySem PySem.Spec PyProof.Rows L2
section
variable {P : Program} [hP : OkP fileS P] {w : World} {K : PySem.W.Frag} {mg : Str → Option Value} {base : Heap}
def dL : Option (List Pair) → PyData
  | none => .none
  | some ps => .list (ps.map dP)
def ascO : Option (List Pair) → Prop
  | none => True
  | some ps => ∀ q ∈ ps, asc q.1 ∧ asc q.2
theorem dpP {M : Addr → Prop} {H : Hp} {v : V} {q : Pair} (h : (pairSP K q).P M v H) : Dp K H v (dP q) := by
  obtain ⟨p, xs, rfl, h, rfl⟩ := h
  exact .tup h.sq (.cons (.str _) (.cons (.str _) .nil))
theorem dpL {M : Addr → Prop} {H : Hp} {v : V} {o : Option (List Pair)} (h : (leafO K o).P M v H) : Dp K H v (dL o) := by
  cases o with
  | none =>
    have h : v = .non := h
    subst h
    exact .non
  | some ps =>
    obtain ⟨p, xs, rfl, h, g⟩ := h
    have all : ∀ {xs : List V} {ps : List Pair}, Paired (fun v y => (pairSP K y).P M v H) xs ps → DpAll K H xs (ps.map dP) := by
      intro xs ps g
      induction g with
      | nil => exact .nil
      | cons a _ ih => exact .cons (dpP a) ih
    exact .lst h.sq (all g)
theorem shO {o : Option (List Pair)} (h : ascO o) : PyData.canLay0 (dL o) = true ∧ PyData.depth (dL o) ≤ 2 := by
  cases o with
  | none => exact ⟨rfl, Nat.zero_le _⟩
  | some ps =>
    obtain ⟨h1, h2⟩ := shL h
    exact ⟨h1, by show PyData.depthAll (ps.map dP) + 1 ≤ 2; omega⟩
theorem shA : ∀ {os : List (Option (List Pair))}, (∀ o ∈ os, ascO o) → PyData.canLayAll0 (os.map dL) = true ∧ PyData.depthAll (os.map dL) ≤ 2
  | [], _ => ⟨rfl, Nat.zero_le _⟩
  | q :: os, h => by
    obtain ⟨h1, h2⟩ := shO (h q (List.mem_cons_self ..))
    obtain ⟨h3, h4⟩ := shA (os := os) fun x hx => h x (List.mem_cons_of_mem _ hx)
    refine ⟨?_, ?_⟩
    · show (PyData.canLay0 (dL q) && PyData.canLayAll0 (os.map dL)) = true
      rw [h1, h3]
      rfl
    · show max (PyData.depth (dL q)) (PyData.depthAll (os.map dL)) ≤ 2
      omega
theorem shapedA {os : List (Option (List Pair))} (h : ∀ o ∈ os, ascO o) : SeqAt.shaped (.list (os.map dL)) = true := by
  obtain ⟨h1, h2⟩ := shA h
  show (PyData.canLayAll0 (os.map dL) && decide (PyData.depthAll (os.map dL) + 1 ≤ 64)) = true
  rw [h1, decide_eq_true (by omega)]
  rfl
theorem anyNone : ∀ (os : List (Option (List Pair))), ((os.map dL).any fun z => PyData.eqv z .none) = decide (none ∈ os)
  | [] => rfl
  | o :: os => by
    rw [List.map_cons, List.any_cons, anyNone os]
    cases o with
    | none =>
      rw [decide_eq_true (show none ∈ none :: os from List.mem_cons_self ..)]
      rfl
    | some ps =>
      show (false || _) = _
      rw [Bool.false_or]
      exact decide_eq_decide.mpr ⟨fun z => List.mem_cons_of_mem _ z, fun z => (List.mem_cons.mp z).resolve_left (fun e => nomatch e)⟩
abbrev N0_l_name : List Str := ["_law_line_here", "_law_leaves", "_law_piece"]
theorem sc0_l_name : FnScope N0_l_name ["_law_line_here"] (defScope s_l_name) := ⟨rfl, rfl, rfl, by decide +kernel, rfl, by decide +kernel, by decide +kernel⟩
-- slots: 0 _law_line_here, 1 _law_leaves, 2 _law_piece
def nameLO (K : PySem.W.Frag) : Option (List (List Pair)) → SP
  | none => is .non
  | some ls => lstP (lstP (pairSP K)) ls
def sp_l_name (K : PySem.W.Frag) : Sp := pureSp (fun (l : Codes) _ vs _ => vs = [sv l] ∧ asc l ∧ l.length ≤ 20000) (fun l => nameLO K (lawName l))
theorem paired_somes {M : Addr → Prop} {H : Hp} : ∀ {xs : List V} {os : List (Option (List Pair))}, none ∉ os → Paired (fun v o => (leafO K o).P M v H) xs os → Paired (fun v ps => (lstP (pairSP K) ps).P M v H) xs (os.filterMap id)
  | _, _, _, .nil => .nil
  | _, some ps :: os, h, .cons a b => .cons a (paired_somes (fun z => h (List.mem_cons_of_mem _ z)) b)
  | _, none :: os, h, .cons a b => absurd (List.mem_cons_self ..) h
theorem c0_l_name (T : Tx K mg) : Cal P w K mg base 3 "_law_name" ["_law_line_here"] (sp_l_name K) := by
  have C_l_split := c0_l_split (P := P) (w := w) (base := base) T
  have C_l_leaf := c0_l_leaf (P := P) (w := w) (base := base) T
  refine T.d_l_name.cal sc0_l_name (fun vs H Q E h => ?_) (fun _ _ _ _ _ _ us hl => match us, hl with | [_], _ => rfl) (fun f cdv A outer s H vs Q E hr h => ?_)
  · obtain ⟨R, n, x, _, ⟨rfl, _⟩, _⟩ := h
    rfl
  · obtain ⟨R, n, l, hj, ⟨rfl, ha, hl⟩, q⟩ := h
    refine ⟨_, (pss_cons (ps_set (i := 1) sc0_l_name.nd rfl (by first | exact Or.inl rfl | exact Or.inr rfl) (pe_ifExp (pt_cmpR (cm_NotEq (K := K) hr.units) (pv 0) pe_str (nomark _)) (pe_lc (own := [("_law_piece", 2)]) (by rfl) sc0_l_name.nd (pi_any (K := K) (pe_callC C_l_split (hr.mono (by decide)) (by rfl) (pa_cons (pv 0) (pa_cons pe_str pa_nil)))) (blkOk_by (own := [("_law_piece", 2)]) (N := N0_l_name) (sc := defScope s_l_name) (by decide +kernel)) (fun _ _ _ _ _ => (pg_name (i := 2) sc0_l_name.nd rfl (by first | exact Or.inl rfl | exact Or.inr rfl))) (fun _ _ _ _ _ => pts_nil) (fun _ _ _ _ _ => (pe_callC C_l_leaf (hr.mono (by decide)) (by rfl) (pa_cons (pv 2) pa_nil)))) (pe_lst pa_nil)))
      (pss_one (ps_ret (pe_ifExp (PW.pt (pw_or (pt_cmpR (cm_In (K := K) (hu65 hr)) pe_non (pv 1) (by rfl)) (pw_or1 (pt_cmpR cm_Gt (pe_callB (call_lenA (K := K)) (by rfl) T.b_len (by decide +kernel) (pa_cons (pv 1) pa_nil)) pe_int (nomark _))))) pe_non (pv 1))))), ?_⟩
    refine StF.run (R := R) (n := n) ?_ hj
    have hos : ∃ os : List (Option (List Pair)), os = (if l = [] then [] else (sp 44 [] l).map lawLeaf) := ⟨_, rfl⟩
    obtain ⟨os, hos⟩ := hos
    have hN : lawName l = if none ∈ os ∨ 12 < os.length then none else some (os.filterMap id) := by
      rw [hos]
      rfl
    have hosA : ∀ o ∈ os, ascO o := fun o ho => by
      rw [hos] at ho
      split at ho
      · cases ho
      · obtain ⟨p, hp, rfl⟩ := List.mem_map.mp ho
        cases hz : lawLeaf p with
        | none => trivial
        | some ps => exact lawLeaf_asc (sp_asc ha hp) hz
    have hol : os.length ≤ l.length + 1 := by
      rw [hos]
      split
      · exact Nat.zero_le _
      · rw [List.length_map]; exact sp_many 44 l
    refine q_asg (m := n) (p := lstP (leafO K) os) ?_ fun v H1 e1 hv => ?_
    · refine ev_ifB (m := n) (b := !decide (l = [])) (et_test (ev_op2 (m := n) (ev_var rfl) (ev_str (l := []) (by decide +kernel)) fun H3 _ => rv_neS)) (fun hb => ?_) (fun hb => ?_)
      · have hne : ¬ l = [] := fun z => by rw [decide_eq_true z] at hb; cases hb
        rw [if_neg hne] at hos
        have hit : ItP R n (n + (sp 44 [] l).length * 0) (iAny K (tCall (sp_l_split K) [] E0 (tCons (tVar 0) (tCons (tC (.str ",")) tNil)))) (start N0_l_name [sv l]) H ((sp 44 [] l).map fun p => is (sv p)) := by
          rw [Nat.mul_zero]
          have h2 : EvP R n n (tCall (sp_l_split K) [] E0 (tCons (tVar 0) (tCons (tC (.str ",")) tNil))) (start N0_l_name [sv l]) H (lstG (· = (sp 44 [] l).map sv)) := ev_pure (post := fun x : Nat × Codes => lstG (· = (sp x.1 [] x.2).map sv)) (44, l) (ea_cons (ev_var (v := sv l) rfl) (ea_cons (ev_str (l := [44]) (by decide +kernel)) ea_nil)) fun vs H1 _ hv => by
            obtain ⟨v, u, rfl, hv1, hv2⟩ := two hv
            exact ⟨by rw [show v = _ from hv1, show u = _ from hv2], (show (44 : Nat) ≠ 92 by decide), hl⟩
          have h3 := it_lstV (K := K) h2
          rw [List.map_map] at h3
          exact h3
        have h4 := ev_lcP (te := tCall (sp_l_leaf K) [] E0 (tCons (tVar 2) tNil)) (vs := [2]) (j := 2) 0 (fun p => leafO K (lawLeaf p)) hit (by have := sp_many 44 l; omega) (fun x => rfl) (fun R' H' a k ex ham => ev_pure (post := fun l => leafO K (lawLeaf l)) a (ea_cons (ev_var (v := sv a) rfl) ea_nil) fun vs H1 _ hv => by
          obtain ⟨v, rfl, hv1⟩ := one hv
          exact ⟨by rw [show v = _ from hv1], by have := sp_len ham; omega⟩)
        refine h4.imp fun v H1 _ hv => ?_
        obtain ⟨p, xs, rfl, h, g⟩ := hv
        rw [hos]
        exact ⟨p, xs, rfl, h, paired_sub (F := fun v o => (leafO K o).P R.M v H1) (m := lawLeaf) g⟩
      · have hne : l = [] := by
          cases h : decide (l = []) with
          | true => exact of_decide_eq_true h
          | false => rw [h] at hb; cases hb
        rw [if_pos hne] at hos
        rw [hos]
        exact (ev_lstV (vs := []) ea_nil (Nat.zero_le _)).imp fun v H1 _ ⟨p, xs, e, h, g⟩ => ⟨p, xs, e, h, by subst g; exact .nil⟩
    · refine s_ret (m := n) (p := nameLO K (lawName l)) ?_ fun v H2 e2 hv => q v H2 (R.trans e1 e2) hv
      have hvar : EvP R n n (tVar 1) [some (sv l), some v, none] H1 (lstP (leafO K) os) := ev_varP rfl hv
      rw [hN]
      refine ev_ifB (m := n) (b := decide (none ∈ os) || decide (12 < os.length)) (et_or (et_test (ev_op (m := n) (p := is .non) (q := lstP (leafO K) os) ev_c hvar fun x y H3 e3 hx hy _ jj Q f => ?_)) fun _ => et_is (et_test (ev_op2 (m := n) (ev_len1 (len := os.length) hvar fun v H3 _ hv => ?_) ev_c fun H3 _ => rv_gtI)) (decide_eq_decide.mpr (by omega))) (fun hb => ?_) (fun hb => ?_)
      · have hx : x = .non := hx
        subst hx
        obtain ⟨p, xs, rfl, h, g⟩ := hy
        have all : ∀ {xs : List V} {os : List (Option (List Pair))}, Paired (fun v y => (leafO K y).P R.M v H3) xs os → DpAll K H3 xs (os.map dL) := by
          intro xs os g
          induction g with
          | nil => exact .nil
          | cons a _ ih => exact .cons (dpL a) ih
        refine .inr (.inr ⟨.none, os.map dL, .non, .lst h.sq (all g), rfl, shapedA hosA, f _ H3 (R.self jj) ?_⟩)
        rw [anyNone]
        rfl
      · obtain ⟨p, xs, rfl, h, g⟩ := hv
        exact .inl ⟨xs, h.sq, g.length.symm⟩
      · rw [if_pos (by rw [Bool.or_eq_true, decide_eq_true_eq, decide_eq_true_eq] at hb; exact hb)]
        exact ev_c
      · rw [Bool.or_eq_false_iff, decide_eq_false_iff_not, decide_eq_false_iff_not] at hb
        rw [if_neg (fun z => z.elim hb.1 hb.2)]
        exact hvar.imp fun v H3 _ ⟨p, xs, e, h, g⟩ => ⟨p, xs, e, h, paired_somes hb.1 g⟩

end
end My
namespace My
open PySem PySem.Spec PyProof.Rows L2
section
variable {P : Program} [hP : OkP fileS P] {w : World} {K : PySem.W.Frag} {mg : Str → Option Value} {base : Heap}
/-! ### _law_low: the law's own plain text -/
abbrev N0_l_low : List Str := ["_law_thing", "_law_found", "_law_sign", "_law_at", "_law_low_here"]
theorem sc0_l_low : FnScope N0_l_low ["_law_thing"] (defScope s_l_low) := ⟨rfl, rfl, rfl, by decide +kernel, rfl, by decide +kernel, by decide +kernel⟩
-- slots: 0 _law_thing, 1 _law_found, 2 _law_sign, 3 _law_at, 4 _law_low_here
def up26 : Codes := cs "ABCDEFGHIJKLMNOPQRSTUVWXYZ"
def lo26 : Codes := cs "abcdefghijklmnopqrstuvwxyz"
theorem find_up : ∀ c, c < 128 → Txt.find (SX.S up26) (SX.S [c]) = if 65 ≤ c ∧ c ≤ 90 then (c : Int) - 65 else -1 := by decide +kernel
theorem lo_at : ∀ c, c < 128 → 65 ≤ c ∧ c ≤ 90 → lo26[c - 65]? = some (PyProof.Rows.lo1 c) := by decide +kernel
theorem atI_last? {f : Codes} {c : Nat} (h : f.getLast? = some c) : atI f (-1) = some c := by
  have hne : f ≠ [] := fun e => by rw [e] at h; cases h
  have hl : 0 < f.length := List.length_pos_iff.mpr hne
  unfold atI ixN
  rw [if_neg (by decide), if_pos (by omega)]
  show f[(-1 + (f.length : Int)).toNat]? = some c
  rw [show (-1 + (f.length : Int)).toNat = f.length - 1 by omega, ← List.getLast?_eq_getElem?]
  exact h
theorem sl_last1 (f : Codes) : decide (sl f (some (-1)) none = [32]) = decide (f.getLast? = some 32) := by
  by_cases hf : f = []
  · subst hf
    have : sl [] (some (-1)) none = [] := List.eq_nil_of_length_eq_zero (Nat.le_zero.mp (sl_len [] _ _))
    rw [this]
    rfl
  · unfold sl
    rw [C8.cutS_slice, SX.slice_last hf]
    have e : f = f.dropLast ++ [f.getLast hf] := (List.dropLast_concat_getLast hf).symm
    have e2 : f.drop (f.length - 1) = [f.getLast hf] := by
      have hl : f.length - 1 = f.dropLast.length := by rw [List.length_dropLast]
      conv => lhs; rw [hl]; arg 2; rw [e]
      exact List.drop_left
    have e3 : f.getLast? = some (f.getLast hf) := List.getLast?_eq_getLast hf
    show decide (f.drop (f.length - 1) = [32]) = _
    rw [e2, e3]
    by_cases h : f.getLast hf = 32
    · rw [h]; rfl
    · rw [decide_eq_false fun z => h (List.cons.inj z).1, decide_eq_false fun z => h (Option.some.inj z)]
theorem sl_butlast (f : Codes) (hf : f ≠ []) : sl f none (some (-1)) = f.dropLast := by
  unfold sl
  rw [C8.cutS_slice, SX.slice_butlast hf, List.dropLast_eq_take]
def sp_l_low : Sp := pureSp (fun (l : Codes) _ vs _ => vs = [sv l] ∧ asc l ∧ l.length ≤ 20000) (fun l => is (sv (plainL l)))
theorem asc_at {l : Codes} {i c : Nat} (h : asc l) (hc : l[i]? = some c) : c < 128 := of_decide_eq_true (List.all_eq_true.mp h c (List.mem_of_getElem? hc))
theorem c0_l_low (T : Tx K mg) : Cal P w K mg base 1 "_law_low" ["_law_thing"] (sp_l_low) := by
  refine T.d_l_low.cal sc0_l_low (fun vs H Q E h => ?_) (fun _ _ _ _ _ _ us hl => match us, hl with | [_], _ => rfl) (fun f cdv A outer s H vs Q E hr h => ?_)
  · obtain ⟨R, n, l, _, ⟨rfl, _⟩, _⟩ := h
    rfl
  · obtain ⟨R, n, l, hj, ⟨rfl, ha, hl⟩, q⟩ := h
    refine ⟨_, (pss_cons (ps_set (i := 1) sc0_l_low.nd rfl (by first | exact Or.inl rfl | exact Or.inr rfl) pe_str)
      (pss_cons (ps_for PassesOwn.never rfl (pi_any (K := K) (pv 0)) (pg_name (i := 2) sc0_l_low.nd rfl (by first | exact Or.inl rfl | exact Or.inr rfl))
      (pss_cons (ps_set (i := 3) sc0_l_low.nd rfl (by first | exact Or.inl rfl | exact Or.inr rfl) (pe_bmK (K := K) PySem.F.plainAttrs_str PySem.F.slot_str_find PySem.F.type_str_find mt_findA pe_str (pa_cons (pv 2) pa_nil)))
      (pss_cons (ps_set (i := 4) sc0_l_low.nd rfl (by first | exact Or.inl rfl | exact Or.inr rfl) (pe_ifExp (pt_cmpR cm_GtE (pv 3) pe_int (nomark _)) (pe_ix (ix_any (K := K)) pe_str (pv 3) (fun _ _ => rfl)) (pv 2)))
      (pss_one (ps_if (PW.pt (pw_or (pt_cmpR (cm_NotEq (K := K) hr.units) (pv 4) pe_str (nomark _)) (pw_or1 (PW.pt (pw_and (pt_cmpR (cm_NotEq (K := K) hr.units) (pv 1) pe_str (nomark _)) (pw_and1 (pt_cmpR (cm_NotEq (K := K) hr.units) (pe_ix (ix_any (K := K)) (pv 1) (pe_un un_neg pe_int) (fun _ _ => rfl)) pe_str (nomark _)))))))) (pss_one (ps_set (i := 1) sc0_l_low.nd rfl (by first | exact Or.inl rfl | exact Or.inr rfl) (pe_op (op_Add (K := K)) (pv 1) (pv 4)))) pss_nil)))))
      (pss_one (ps_ret (pe_ifExp (pt_cmpR (cm_Eq (K := K) hr.units) (pe_slice (sl_any (K := K)) (pv 1) (po_some (pe_un un_neg pe_int)) po_none) pe_str (nomark _)) (pe_slice (sl_any (K := K)) (pv 1) po_none (po_some (pe_un un_neg pe_int))) (pv 1)))))), ?_⟩
    refine StF.run (R := R) (n := n) ?_ hj
    refine q_asgV (m := n) (v := sv []) (ev_str (by decide +kernel)) ?_
    have hI : ItP R n n (iAny K (tVar 0)) [some (sv l), some (sv []), none, none, none] H ((l.map fun c => sv [c]).map is) := by
      rw [List.map_map]
      exact it_text (ev_var rfl)
    refine q_forV hI (fun i σ' => ∃ y2 y3 y4, σ' = [some (sv l), some (sv (lowT (l.take i))), y2, y3, y4]) ⟨none, none, none, rfl⟩ (fun B i w σ' eb hw hI => ?_) fun σ' hI => ?_
    · obtain ⟨y2, y3, y4, rfl⟩ := hI
      rw [List.getElem?_map] at hw
      obtain ⟨c, hc, rfl⟩ := Option.map_eq_some_iff.mp hw
      have hc1 := asc_at ha hc
      have hlt := (List.getElem?_eq_some_iff.mp hc).1
      have hfl : (lowT (l.take i)).length ≤ 20000 := by
        have h1 := lowT_len (l.take i)
        rw [List.length_take] at h1
        omega
      generalize hf : lowT (l.take i) = f at hfl
      -- the place among the capitals
      refine q_asgV (m := n) (v := .int (if 65 ≤ c ∧ c ≤ 90 then (c : Int) - 65 else -1)) (ev_is (ev_find (ev_str (l := up26) (SX.S_tl _).symm) (ev_var (v := sv [c]) rfl)) (by rw [find_up c hc1])) ?_
      refine q_asgV (m := n) (v := sv [PyProof.Rows.lo1 c]) ?_ ?_
      · by_cases h : 65 ≤ c ∧ c ≤ 90
        · rw [if_pos h]
          refine ev_ifB (m := n) (b := true) (et_is (et_test (ev_op2 (ev_var rfl) ev_c fun H3 _ => rv_geI)) (decide_eq_true (by omega))) (fun _ => ?_) (fun z => nomatch z)
          refine ev_op2 (m := n) (x := sv lo26) (y := .int ((c : Int) - 65)) (ev_str (SX.S_tl _).symm) (ev_var rfl) fun H3 _ => rv_ixS (by decide +kernel) ?_
          rw [show (c : Int) - 65 = ((c - 65 : Nat) : Int) by omega]
          exact atI_nat (lo_at c hc1 h)
        · rw [if_neg h]
          have e : PyProof.Rows.lo1 c = c := if_neg h
          rw [e]
          exact ev_ifB (m := n) (b := false) (et_is (et_test (ev_op2 (ev_var rfl) ev_c fun H3 _ => rv_geI)) (decide_eq_false (by omega))) (fun z => nomatch z) (fun _ => ev_var rfl)
      · generalize hd : PyProof.Rows.lo1 c = d
        have hnext : lowT (l.take (i + 1)) = lowStep f d := by rw [take_snoc hc, lowT_snoc, hf, hd]
        refine s_when (m := n) (G := (· = (!decide (d = 32) || (!decide (f = []) && !decide (f.getLast? = some 32))))) ?_ (fun hb => ?_) (fun hb H1 e1 => ?_)
        · refine et_or (et_is (et_test (ev_op2 (m := n) (x := sv [d]) (y := sv [32]) (ev_var rfl) (ev_str (by decide +kernel)) fun H3 _ => rv_neS)) (by simp)) fun _ => ?_
          refine et_and (et_test (ev_op2 (m := n) (x := sv f) (y := sv []) (ev_var rfl) (ev_str (by decide +kernel)) fun H3 _ => rv_neS)) fun hfe => ?_
          have hne : f ≠ [] := fun e => by rw [decide_eq_true e] at hfe; cases hfe
          obtain ⟨x, hx⟩ : ∃ x, f.getLast? = some x := ⟨_, List.getLast?_eq_getLast hne⟩
          refine et_is (et_test (ev_op2 (m := n) (x := sv [x]) (y := sv [32]) (ev_op2 (m := n) (x := sv f) (y := .int (-1)) (ev_var rfl) (ev_neg ev_c) fun H3 _ => rv_ixS (by omega) (atI_last? hx)) (ev_str (by decide +kernel)) fun H3 _ => rv_neS)) ?_
          rw [hx]
          simp
        · refine s_asgV (m := n) (v := sv (f ++ [d])) (ev_op2 (m := n) (x := sv f) (y := sv [d]) (ev_var rfl) (ev_var rfl) fun H3 _ => rv_addS (by rw [List.length_singleton]; omega)) fun H3 e3 => ⟨e3, ?_⟩
          refine ⟨some (sv [c]), some (.int (if 65 ≤ c ∧ c ≤ 90 then (c : Int) - 65 else -1)), some (sv [d]), ?_⟩
          rw [hnext]
          have : lowStep f d = f ++ [d] := by
            unfold lowStep
            refine if_pos ?_
            by_cases h1 : d = 32
            · right
              rw [decide_eq_true h1] at hb
              constructor
              · intro e; rw [decide_eq_true e] at hb; cases hb
              · intro e; rw [decide_eq_true e] at hb; simp at hb
            · exact .inl h1
          rw [this]
          rfl
        · refine ⟨e1, some (sv [c]), some (.int (if 65 ≤ c ∧ c ≤ 90 then (c : Int) - 65 else -1)), some (sv [d]), ?_⟩
          rw [hnext]
          have : lowStep f d = f := by
            unfold lowStep
            refine if_neg fun z => ?_
            have hb : false = _ := hb
            rcases z with z | ⟨z1, z2⟩
            · rw [decide_eq_false z] at hb; cases hb
            · rw [decide_eq_false z1, decide_eq_false z2] at hb; simp at hb
          rw [this]
          rfl
    · obtain ⟨y2, y3, y4, rfl⟩ := hI
      rw [List.length_map, List.take_length]
      have hfl : (lowT l).length ≤ 20000 := by
        have h1 := lowT_len l
        omega
      refine s_ret (m := n) (p := is (sv (plainL l))) ?_ q
      rw [← low_plain]
      show EvP R n n _ _ H (is (sv (lowEnd (lowT l))))
      generalize lowT l = f at hfl
      refine ev_ifB (m := n) (b := decide (f.getLast? = some 32)) (et_is (et_test (ev_op2 (m := n) (x := sv (sl f (some (-1)) none)) (y := sv [32]) (ev_sl (m := n) (k := n) (p := is (sv f)) (ev_var rfl) (eo_some (ev_neg ev_c)) eo_none fun x H3 _ hx => by rw [show x = sv f from hx]; exact rs_S (by omega)) (ev_str (by decide +kernel)) fun H3 _ => rv_eqS)) (sl_last1 f)) (fun hb => ?_) (fun hb => ?_)
      · have hb := of_decide_eq_true hb
        have hne : f ≠ [] := fun e => by rw [e] at hb; cases hb
        unfold lowEnd
        rw [if_pos hb]
        exact ev_is (ev_sl (m := n) (k := n) (p := is (sv f)) (ev_var rfl) eo_none (eo_some (ev_neg ev_c)) fun x H3 _ hx => by rw [show x = sv f from hx]; exact rs_S (by omega)) (by rw [sl_butlast f hne])
      · unfold lowEnd
        rw [if_neg (of_decide_eq_false hb)]
        exact ev_var rfl

end
end My
namespace My
open PySem PySem.Spec PyProof.Rows L2
section
variable {P : Program} [hP : OkP fileS P] {w : World} {K : PySem.W.Frag} {mg : Str → Option Value} {base : Heap}
/-! ### _law_escaped, _law_leaf_line, _law_line -/
abbrev N0_l_escaped : List Str := ["_law_thing", "_law_found", "_law_at", "_law_sign", "_law_must"]
theorem sc0_l_escaped : FnScope N0_l_escaped ["_law_thing"] (defScope s_l_escaped) := ⟨rfl, rfl, rfl, by decide +kernel, rfl, by decide +kernel, by decide +kernel⟩
-- slots: 0 _law_thing, 1 _law_found, 2 _law_at, 3 _law_sign, 4 _law_must
def sp_l_escaped : Sp := pureSp (fun (l : Codes) _ vs _ => vs = [sv l] ∧ l.length ≤ 20000) (fun l => is (sv (escL l)))
/-- what stands in _law_must -/
theorem ev_must {R : Rel} {n : Nat} {σ : L2.St} {H : Hp} {f : Codes} {r c i j z : Nat} (hf : f.length ≤ 20000) (hc : σ[i]? = some (some (sv [c]))) (hr : σ[j]? = some (some (.int (r : Nat)))) (hz : σ[z]? = some (some (sv f))) :
    EvP R n n (tOrV (tOp (rInU K) (tVar i) (tLst (tCons (tC (.str ",")) (tCons (tC (.str "+")) (tCons (tC (.str "=")) (tCons (tC (.str "\\")) tNil)))))) (tAndV (tOp (rEqU K) (tVar i) (tC (.str " "))) (tOp (rInU K) (tVar j) (tLst (tCons (tC (.int 0)) (tCons (tOp (rI0 fun i j => V.int (i - j)) (tCB (rLenU K) (tCons (tVar z) tNil)) (tC (.int 1))) tNil)))))) σ H (is (.bl (must f.length r c))) := by
  refine ev_is (ev_orV (ev_inT (m := n) (ws := [[44], [43], [61], [92]]) (w := [c]) (ev_var hc) (ev_lstV (vs := [sv [44], sv [43], sv [61], sv [92]]) (ea_cons (m := n) (ev_str (by decide +kernel)) (ea_cons (m := n) (ev_str (by decide +kernel)) (ea_cons (m := n) (ev_str (by decide +kernel)) (ea_cons (m := n) (ev_str (by decide +kernel)) ea_nil)))) (by show 4 ≤ 100000; decide))) fun _ => ev_andV (ev_op2 (m := n) (ev_var hc) (ev_str (l := [32]) (by decide +kernel)) fun H3 _ => rv_eqS) fun _ => ev_op (m := n) (s := is (.bl (decide (r = 0 ∨ r + 1 = f.length)))) (ev_var hr) (ev_lstV (vs := [.int 0, .int ((f.length : Nat) - 1 : Int)]) (ea_cons (m := n) ev_c (ea_cons (m := n) (ev_op2 (m := n) (ev_lenS (ev_var hz) (by omega)) ev_c fun H3 _ => rv_subI) ea_nil)) (by show 2 ≤ 100000; decide)) fun u v H3 e3 hu hv => ?_) ?_
  · have hu : u = .int (r : Nat) := hu
    subst hu
    obtain ⟨p, xs, rfl, hp, rfl⟩ := hv
    refine fun _ jj Q f2 => .inr (.inl ⟨p, _, rfl, .inl hp.sq, rfl, rfl, f2 _ H3 (R.self jj) ?_⟩)
    show V.bl (inV (.int (r : Nat)) [.int 0, .int ((f.length : Nat) - 1 : Int)]) = V.bl _
    congr 1
    unfold inV
    rw [List.any_cons, List.any_cons, List.any_nil, Bool.or_false]
    show (((0 : Int) == (r : Int)) || (((f.length : Int) - 1) == (r : Int))) = _
    rw [Bool.decide_or]
    congr 1
    · by_cases h : r = 0
      · rw [h, decide_eq_true rfl]; rfl
      · rw [decide_eq_false h, beq_eq_false_iff_ne]; omega
    · by_cases h : r + 1 = f.length
      · rw [decide_eq_true h, beq_iff_eq]; omega
      · rw [decide_eq_false h, beq_eq_false_iff_ne]; omega
  · congr 1
    unfold must
    congr 1
    · exact decide_eq_decide.mpr (by simp)
    · congr 1
      exact decide_eq_decide.mpr (by simp)
theorem c0_l_escaped (T : Tx K mg) : Cal P w K mg base 1 "_law_escaped" ["_law_thing"] (sp_l_escaped) := by
  refine T.d_l_escaped.cal sc0_l_escaped (fun vs H Q E h => ?_) (fun _ _ _ _ _ _ us hl => match us, hl with | [_], _ => rfl) (fun f cdv A outer s H vs Q E hr h => ?_)
  · obtain ⟨R, n, l, _, ⟨rfl, _⟩, _⟩ := h
    rfl
  · obtain ⟨R, n, l, hj, ⟨rfl, hl⟩, q⟩ := h
    refine ⟨_, (pss_cons (ps_set (i := 1) sc0_l_escaped.nd rfl (by first | exact Or.inl rfl | exact Or.inr rfl) pe_str)
      (pss_cons (ps_for PassesOwn.never rfl (pi_enumA (K := K) (by rfl) T.b_enumerate (pa_cons (pv 0) pa_nil)) (pg_tupK (K := K) (n := 2) rfl (pgs_cons (pg_name (i := 2) sc0_l_escaped.nd rfl (by first | exact Or.inl rfl | exact Or.inr rfl)) (pgs_cons (pg_name (i := 3) sc0_l_escaped.nd rfl (by first | exact Or.inl rfl | exact Or.inr rfl)) pgs_nil)))
      (pss_cons (ps_set (i := 4) sc0_l_escaped.nd rfl (by first | exact Or.inl rfl | exact Or.inr rfl) (pe_or (pe_cmpR (cm_In (K := K) (hu65 hr)) (pv 3) (pe_lst (pa_cons pe_str (pa_cons pe_str (pa_cons pe_str (pa_cons pe_str pa_nil))))) (by rfl)) (pe_one (pe_and (pe_cmpR (cm_Eq (K := K) hr.units) (pv 3) pe_str (nomark _)) (pe_one (pe_cmpR (cm_In (K := K) (hu65 hr)) (pv 2) (pe_lst (pa_cons pe_int (pa_cons (pe_op op_sub (pe_callB (call_lenA (K := K)) (by rfl) T.b_len (by decide +kernel) (pa_cons (pv 0) pa_nil)) pe_int) pa_nil))) (by rfl)))))))
      (pss_one (ps_set (i := 1) sc0_l_escaped.nd rfl (by first | exact Or.inl rfl | exact Or.inr rfl) (pe_op (op_Add (K := K)) (pe_op (op_Add (K := K)) (pv 1) (pe_op op_Mult pe_str (pe_callTy call_intA (by rfl) T.b_int (by decide +kernel) (pa_cons (pv 4) pa_nil)))) (pv 3))))))
      (pss_one (ps_ret (pv 1))))), ?_⟩
    refine StF.run (R := R) (n := n) ?_ hj
    refine q_asgV (m := n) (v := sv []) (ev_str (by decide +kernel)) ?_
    refine q_forE (a := l) (ev_var rfl) (fun r σ' => ∃ x y z, σ' = [some (sv l), some (sv (escF l.length 0 (l.take r))), x, y, z]) ⟨none, none, none, rfl⟩ (fun B r c σ' eb hc hI => ?_) (fun σ' hI => ?_)
    · obtain ⟨x, y, z, rfl⟩ := hI
      have hr := (List.getElem?_eq_some_iff.mp hc).1
      have hf := escF_len l.length (l.take r) 0
      rw [List.length_take, Nat.min_eq_left (by omega)] at hf
      refine q_asgV (m := n) (v := .bl (must l.length r c)) (ev_must hl rfl rfl rfl) ?_
      refine s_asgV (m := n) (v := sv (escF l.length 0 (l.take (r + 1)))) ?_ fun H2 e2 => ⟨e2, _, _, _, rfl⟩
      rw [escF_step hc]
      refine ev_op2 (m := n) (x := sv (escF l.length 0 (l.take r) ++ (if must l.length r c then [92] else []))) (y := sv [c]) (ev_op2 (m := n) (x := sv (escF l.length 0 (l.take r))) (y := sv (if must l.length r c then [92] else [])) (ev_var rfl) ?_ fun H3 _ => rv_addS (by split <;> simp <;> omega)) (ev_var rfl) fun H3 _ => rv_addS (by split <;> simp <;> omega)
      refine ev_is (ev_op2 (m := n) (x := sv [92]) (ev_str (by decide +kernel)) (ev_intB (c := must l.length r c) (ev_var rfl)) fun H3 _ => rv_mulS (by split <;> omega) (by split <;> omega)) ?_
      cases must l.length r c <;> rfl
    · obtain ⟨x, y, z, rfl⟩ := hI
      refine s_ret (m := n) (p := is (sv (escL l))) (ev_is (ev_var rfl) ?_) q
      rw [List.take_of_length_le (Nat.le_refl _)]
      rfl
/-! ### texts of relative names -/
def pairL (q : Pair) : Codes := q.1 ++ [61] ++ escL q.2
def leafLine (ps : List Pair) : Codes := TL.joinL [43] (ps.map pairL)
def lineL (ls : List (List Pair)) : Codes := TL.joinL [44] (ls.map leafLine)
/-- a comprehension over pairs -/
theorem ev_lcT {R : Rel} {n : Nat} {σ : L2.St} {H : Hp} {te : TE} {vs : List Nat} {as : List Pair} {i j : Nat} {wi : TI} (gv : Pair → V) (hi : ItP R n n wi σ H (as.map (pairSP K))) (hz : as.length ≤ 50000) (hw : ∀ x y, wipe (((wipe σ vs).set i (some x)).set j (some y)) vs = wipe σ vs)
    (hs : ∀ R' H' a, Ext R H R' H' → a ∈ as → EvP R' n n te (((wipe σ vs).set i (some (sv a.1))).set j (some (sv a.2))) H' (is (gv a))) : EvP R n n (tLc wi (gTup K 2 (gCons (gName i) (gCons (gName j) gNil))) tYes te vs) σ H (lstG (· = as.map gv)) := by
  refine (ev_lc (t := tYes) (te := te) (g := gTup K 2 (gCons (gName i) (gCons (gName j) gNil))) (vs := vs) (f := fun _ => true) (pe := fun i => is (gv (as.getD i ([], [])))) (c := fun _ => n) hi (by rw [List.length_map]; exact hz) fun R' H' r y x ex hy hx => ?_).imp fun v H1 _ hv => ?_
  · rw [List.getElem?_map] at hy
    obtain ⟨w, hw1, rfl⟩ := Option.map_eq_some_iff.mp hy
    have eg : as.getD r ([], []) = w := getD_of hw1
    obtain ⟨T, xs, rfl, hT, rfl⟩ := hx
    refine ⟨_, fun Q q => ⟨T, _, rfl, hT.sq, rfl, _, _, rfl, _, _, rfl, rfl, q⟩, hw _ _, n, fun H1 e Q k => k true H1 (R'.refl e) rfl, fun _ => ?_, fun z => nomatch z⟩
    show EvP R' n n te _ H' (is (gv (as.getD r ([], []))))
    rw [eg]
    exact hs R' H' w ex (List.mem_of_getElem? hw1)
  · obtain ⟨l, xs, rfl, h, g⟩ := hv
    refine ⟨l, xs, rfl, h, ?_⟩
    have e := paired_map (gv := fun i => gv (as.getD i ([], []))) g
    rw [List.length_map, List.filter_eq_self.mpr (fun _ _ => rfl)] at e
    rw [e]
    have e2 := congrArg (List.map gv) (range_getD ([], []) as)
    rw [List.map_map] at e2
    exact e2
abbrev N0_l_leaf_line : List Str := ["_law_pairs", "_law_word", "_law_told"]
theorem sc0_l_leaf_line : FnScope N0_l_leaf_line ["_law_pairs"] (defScope s_l_leaf_line) := ⟨rfl, rfl, rfl, by decide +kernel, rfl, by decide +kernel, by decide +kernel⟩
-- slots: 0 _law_pairs, 1 _law_word, 2 _law_told
/-- pairs that are short -/
def shortP (b : Nat) (ps : List Pair) : Prop := ps.length ≤ 10 ∧ ∀ q ∈ ps, q.1.length ≤ 20 ∧ q.2.length ≤ b
def sp_l_leaf_line (K : PySem.W.Frag) : Sp := pureSp (fun (ps : List Pair) M vs H => ∃ v, vs = [v] ∧ shortP 100 ps ∧ (lstP (pairSP K) ps).P M v H) (fun ps => is (sv (leafLine ps)))
theorem sum_le {α : Type} (f : α → Nat) (b : Nat) : ∀ (l : List α), (∀ x ∈ l, f x ≤ b) → (l.map f).sum ≤ l.length * b
  | [], _ => Nat.zero_le _
  | x :: l, h => by
    have h1 := sum_le f b l fun y hy => h y (List.mem_cons_of_mem _ hy)
    have h2 := h x (List.mem_cons_self ..)
    rw [List.map_cons, List.sum_cons, List.length_cons, Nat.add_mul]
    omega
theorem escL_len (l : Codes) : (escL l).length ≤ 2 * l.length := escF_len _ l 0
theorem c0_l_leaf_line (T : Tx K mg) : Cal P w K mg base 2 "_law_leaf_line" ["_law_pairs"] (sp_l_leaf_line K) := by
  have C_l_escaped := c0_l_escaped (P := P) (w := w) (base := base) T
  refine T.d_l_leaf_line.cal sc0_l_leaf_line (fun vs H Q E h => ?_) (fun _ _ _ _ _ _ us hl => match us, hl with | [_], _ => rfl) (fun f cdv A outer s H vs Q E hr h => ?_)
  · obtain ⟨R, n, ps, _, ⟨v, rfl, _⟩, _⟩ := h
    rfl
  · obtain ⟨R, n, ps, hj, ⟨v, rfl, hs, hv⟩, q⟩ := h
    refine ⟨_, (pss_one (ps_ret (pe_bmK (K := K) PySem.F.plainAttrs_str PySem.F.slot_str_join PySem.F.type_str_join (mt_joinA (K := K)) pe_str (pa_cons (pe_lc (own := [("_law_word", 1), ("_law_told", 2)]) (by rfl) sc0_l_leaf_line.nd (pi_any (K := K) (pv 0)) (blkOk_by (own := [("_law_word", 1), ("_law_told", 2)]) (N := N0_l_leaf_line) (sc := defScope s_l_leaf_line) (by decide +kernel)) (fun _ _ _ _ _ => (pg_tupK (K := K) (n := 2) rfl (pgs_cons (pg_name (i := 1) sc0_l_leaf_line.nd rfl (by first | exact Or.inl rfl | exact Or.inr rfl)) (pgs_cons (pg_name (i := 2) sc0_l_leaf_line.nd rfl (by first | exact Or.inl rfl | exact Or.inr rfl)) pgs_nil)))) (fun _ _ _ _ _ => pts_nil) (fun _ _ _ _ _ => (pe_op (op_Add (K := K)) (pe_op (op_Add (K := K)) (pv 1) pe_str) (pe_callC C_l_escaped (hr.mono (by decide)) (by rfl) (pa_cons (pv 2) pa_nil))))) pa_nil)))), ?_⟩
    refine StF.run (R := R) (n := n) ?_ hj
    refine s_ret (m := n) (p := is (sv (leafLine ps))) ?_ q
    have hit := it_lstP (K := K) (R := R) (n := n) (H := H) (σ := start N0_l_leaf_line [v]) (te := tVar 0) (ev_varP (p := lstP (pairSP K) ps) rfl hv)
    have hlc := ev_lcT (te := tOp (rAddU K) (tOp (rAddU K) (tVar 1) (tC (.str "="))) (tCall sp_l_escaped [] E0 (tCons (tVar 2) tNil))) (vs := [1, 2]) (i := 1) (j := 2) (fun a => sv (pairL a)) hit (by have := hs.1; omega) (fun x y => rfl) (fun R' H' a ex ham => by
      have hl1 := hs.2 a ham
      have hl2 := escL_len a.2
      refine ev_op2 (m := n) (x := sv (a.1 ++ [61])) (y := sv (escL a.2)) (ev_op2 (m := n) (ev_var (v := sv a.1) rfl) (ev_str (l := [61]) (by decide +kernel)) fun H3 _ => rv_addS (by simp; omega)) ?_ fun H3 _ => rv_addS (by simp; omega)
      exact ev_pure (post := fun l => is (sv (escL l))) a.2 (ea_cons (ev_var (v := sv a.2) rfl) ea_nil) fun vs H1 _ hv => by
        obtain ⟨v, rfl, hv1⟩ := one hv
        exact ⟨by rw [show v = _ from hv1], by omega⟩)
    refine ev_joinV (ls := ps.map pairL) (ev_str (by decide +kernel)) (ev_is2 hlc (by rw [List.map_map]; rfl)) ?_
    have h1 := sum_le (fun x : Codes => x.length) 300 (ps.map pairL) (fun x hx => by
      obtain ⟨a, ham, rfl⟩ := List.mem_map.mp hx
      have hl1 := hs.2 a ham
      have hl2 := escL_len a.2
      unfold pairL
      simp only [List.length_append, List.length_singleton]
      omega)
    rw [List.length_map] at h1 ⊢
    have := hs.1
    show _ + ps.length * 1 ≤ _
    omega
abbrev N0_l_line : List Str := ["_law_leaves", "_law_pairs"]
theorem sc0_l_line : FnScope N0_l_line ["_law_leaves"] (defScope s_l_line) := ⟨rfl, rfl, rfl, by decide +kernel, rfl, by decide +kernel, by decide +kernel⟩
-- slots: 0 _law_leaves, 1 _law_pairs
def sp_l_line (K : PySem.W.Frag) : Sp := pureSp (fun (ls : List (List Pair)) M vs H => ∃ v, vs = [v] ∧ ls.length ≤ 50 ∧ (∀ ps ∈ ls, shortP 100 ps) ∧ (lstP (lstP (pairSP K)) ls).P M v H) (fun ls => is (sv (lineL ls)))
theorem joinL_len (sep : Codes) : ∀ (ls : List Codes), (TL.joinL sep ls).length ≤ (ls.map (·.length)).sum + ls.length * sep.length
  | [] => by simp [TL.joinL]
  | [x] => by rw [joinL_one]; simp
  | x :: y :: r => by
    have := joinL_len sep (y :: r)
    rw [joinL_cons2]
    simp only [List.length_append, List.map_cons, List.sum_cons, List.length_cons, Nat.add_mul, Nat.one_mul] at this ⊢
    omega
theorem leafLine_len {ps : List Pair} {b : Nat} (hs : shortP b ps) : (leafLine ps).length ≤ ps.length * (22 + 2 * b) := by
  have h0 := joinL_len [43] (ps.map pairL)
  have h1 := sum_le (fun x : Codes => x.length) (21 + 2 * b) (ps.map pairL) (fun x hx => by
    obtain ⟨a, ham, rfl⟩ := List.mem_map.mp hx
    have hl1 := hs.2 a ham
    have hl2 := escL_len a.2
    unfold pairL
    simp only [List.length_append, List.length_singleton]
    omega)
  rw [List.length_map] at h0 h1
  have e : ps.length * (22 + 2 * b) = ps.length * (21 + 2 * b) + ps.length := by rw [show 22 + 2 * b = (21 + 2 * b) + 1 by omega, Nat.mul_add, Nat.mul_one]
  unfold leafLine
  rw [e]
  simp only [List.length_singleton, Nat.mul_one] at h0
  omega
theorem c0_l_line (T : Tx K mg) : Cal P w K mg base 3 "_law_line" ["_law_leaves"] (sp_l_line K) := by
  have C_l_leaf_line := c0_l_leaf_line (P := P) (w := w) (base := base) T
  refine T.d_l_line.cal sc0_l_line (fun vs H Q E h => ?_) (fun _ _ _ _ _ _ us hl => match us, hl with | [_], _ => rfl) (fun f cdv A outer s H vs Q E hr h => ?_)
  · obtain ⟨R, n, ps, _, ⟨v, rfl, _⟩, _⟩ := h
    rfl
  · obtain ⟨R, n, ls, hj, ⟨v, rfl, hn, hs, hv⟩, q⟩ := h
    refine ⟨_, (pss_one (ps_ret (pe_bmK (K := K) PySem.F.plainAttrs_str PySem.F.slot_str_join PySem.F.type_str_join (mt_joinA (K := K)) pe_str (pa_cons (pe_lc (own := [("_law_pairs", 1)]) (by rfl) sc0_l_line.nd (pi_any (K := K) (pv 0)) (blkOk_by (own := [("_law_pairs", 1)]) (N := N0_l_line) (sc := defScope s_l_line) (by decide +kernel)) (fun _ _ _ _ _ => (pg_name (i := 1) sc0_l_line.nd rfl (by first | exact Or.inl rfl | exact Or.inr rfl))) (fun _ _ _ _ _ => pts_nil) (fun _ _ _ _ _ => (pe_callC C_l_leaf_line (hr.mono (by decide)) (by rfl) (pa_cons (pv 1) pa_nil)))) pa_nil)))), ?_⟩
    refine StF.run (R := R) (n := n) ?_ hj
    refine s_ret (m := n) (p := is (sv (lineL ls))) ?_ q
    have hit := it_lstP (K := K) (R := R) (n := n) (H := H) (σ := start N0_l_line [v]) (te := tVar 0) (ev_varP (p := lstP (lstP (pairSP K)) ls) rfl hv)
    have hlc := ev_lcQ (te := tCall (sp_l_leaf_line K) [] E0 (tCons (tVar 1) tNil)) (vs := [1]) (j := 1) (fun ps => sv (leafLine ps)) [] hit (by omega) (fun x => rfl) (fun R' H' a x ex ham hx => ev_pure (post := fun ps => is (sv (leafLine ps))) a (ea_cons (ev_varP (p := lstP (pairSP K) a) rfl hx) ea_nil) fun vs H1 _ hv => by
      obtain ⟨v, rfl, hv1⟩ := one hv
      exact ⟨v, rfl, hs a ham, hv1⟩)
    refine ev_joinV (ls := ls.map leafLine) (ev_str (by decide +kernel)) (ev_is2 hlc (by rw [List.map_map]; rfl)) ?_
    have h1 := sum_le (fun x : Codes => x.length) 2220 (ls.map leafLine) (fun x hx => by
      obtain ⟨a, ham, rfl⟩ := List.mem_map.mp hx
      have h2 := leafLine_len (hs a ham)
      have h3 := (hs a ham).1
      omega)
    rw [List.length_map] at h1 ⊢
    show _ + ls.length * 1 ≤ _
    omega

end
end My
namespace My
open PySem PySem.Spec PyProof.Rows L2
-- plain
/-! ### texts of plain signs -/
theorem asc_app {a b : Codes} (ha : asc a) (hb : asc b) : asc (a ++ b) := by
  unfold asc at *
  rw [List.all_append, ha, hb]
  rfl
theorem asc_rep {c : Nat} (k : Nat) (h : asc [c]) : asc (List.replicate k c) := asc_sub (fun x hx => by rw [List.eq_of_mem_replicate hx]; exact List.mem_singleton.mpr rfl) h
theorem asc_one {c : Nat} (h : c < 128) : asc [c] := by
  unfold asc
  rw [List.all_cons, List.all_nil, decide_eq_true h]
  rfl
theorem asc_take {l : Codes} {i : Nat} (h : asc l) : asc (l.take i) := asc_sub (fun _ hc => List.mem_of_mem_take hc) h
theorem asc_drop {l : Codes} {i : Nat} (h : asc l) : asc (l.drop i) := asc_sub (fun _ hc => List.mem_of_mem_drop hc) h
theorem escF_asc {n : Nat} : ∀ {l : Codes} {i : Nat}, asc l → asc (escF n i l)
  | [], _, _ => rfl
  | c :: r, i, h => by
    have h1 : c < 128 := of_decide_eq_true (List.all_eq_true.mp h c (List.mem_cons_self ..))
    have h2 : asc r := asc_sub (fun x hx => List.mem_cons_of_mem _ hx) h
    rw [escF_cons]
    refine asc_app (by split <;> rfl) (asc_app (a := [c]) (asc_one h1) (escF_asc h2))
theorem joinL_asc {sep : Codes} (hs : asc sep) : ∀ {ls : List Codes}, (∀ x ∈ ls, asc x) → asc (TL.joinL sep ls)
  | [], _ => rfl
  | [x], h => by rw [joinL_one]; exact h x (List.mem_cons_self ..)
  | x :: y :: r, h => by
    rw [joinL_cons2]
    have h1 := joinL_asc hs (ls := y :: r) fun z hz => h z (List.mem_cons_of_mem _ hz)
    have h2 := h x (List.mem_cons_self ..)
    first
      | exact asc_app (asc_app h2 hs) h1
      | exact asc_app h2 (asc_app hs h1)
theorem leafLine_asc {ps : List Pair} (h : ∀ q ∈ ps, asc q.1 ∧ asc q.2) : asc (leafLine ps) := joinL_asc (by rfl) fun x hx => by
  obtain ⟨q, hq, rfl⟩ := List.mem_map.mp hx
  exact asc_app (asc_app (h q hq).1 (by rfl)) (escF_asc (h q hq).2)
theorem lineL_asc {ls : List (List Pair)} (h : ∀ ps ∈ ls, ∀ q ∈ ps, asc q.1 ∧ asc q.2) : asc (lineL ls) := joinL_asc (by rfl) fun x hx => by
  obtain ⟨ps, hp, rfl⟩ := List.mem_map.mp hx
  exact leafLine_asc (h ps hp)
theorem lineL_len {ls : List (List Pair)} {k b : Nat} (h : ∀ ps ∈ ls, ps.length ≤ k ∧ shortP b ps) : (lineL ls).length ≤ ls.length * (k * (22 + 2 * b) + 1) := by
  have h0 := joinL_len [44] (ls.map leafLine)
  have h1 := sum_le (fun x : Codes => x.length) (k * (22 + 2 * b)) (ls.map leafLine) (fun x hx => by
    obtain ⟨a, ham, rfl⟩ := List.mem_map.mp hx
    exact Nat.le_trans (leafLine_len (h a ham).2) (Nat.mul_le_mul_right _ (h a ham).1))
  rw [List.length_map] at h0 h1
  unfold lineL
  rw [Nat.mul_add, Nat.mul_one]
  simp only [List.length_singleton, Nat.mul_one] at h0
  omega

end My
namespace My
open PySem PySem.Spec PyProof.Rows L2
-- plain
/-! numbers by their digits -/
def dig (l : Codes) : Prop := ∀ c ∈ l, 48 ≤ c ∧ c ≤ 57
def dval (l : Codes) : Nat := NumText.digitsVal l
/-- digits without a needless nought ahead -/
def num0 (l : Codes) : Prop := dig l ∧ l ≠ [] ∧ (l = [48] ∨ l.head? ≠ some 48)
/-- a whole number's text: nought, or digits perhaps behind a minus -/
def isNum (s : Codes) : Prop := (num0 s ∨ ∃ d, s = 45 :: d ∧ num0 d ∧ d ≠ [48]) ∧ s.length ≤ 600
def nval (s : Codes) : Int := match s with
  | 45 :: d => -((dval d : Nat) : Int)
  | _ => ((dval s : Nat) : Int)
theorem dval_foldl (l : Codes) (a : Nat) : l.foldl (fun acc c => acc * 10 + (c - 48)) a = a * 10 ^ l.length + l.foldl (fun acc c => acc * 10 + (c - 48)) 0 := by
  induction l generalizing a with
  | nil => simp
  | cons c r ih =>
    rw [List.foldl_cons, List.foldl_cons, ih, ih (0 * 10 + (c - 48)), List.length_cons, Nat.pow_succ]
    have : (a * 10 + (c - 48)) * 10 ^ r.length = a * (10 ^ r.length * 10) + (0 * 10 + (c - 48)) * 10 ^ r.length := by
      rw [Nat.add_mul, Nat.zero_mul, Nat.zero_add, Nat.mul_assoc, Nat.mul_comm 10]
    omega
theorem dval_nil : dval [] = 0 := rfl
theorem dval_cons (c : Nat) (r : Codes) : dval (c :: r) = (c - 48) * 10 ^ r.length + dval r := by
  have h := dval_foldl r (0 * 10 + (c - 48))
  have e : dval (c :: r) = r.foldl (fun acc c => acc * 10 + (c - 48)) (0 * 10 + (c - 48)) := rfl
  rw [e, h]
  show (0 * 10 + (c - 48)) * 10 ^ r.length + dval r = _
  rw [Nat.zero_mul, Nat.zero_add]
theorem dval_lt : ∀ {l : Codes}, dig l → dval l < 10 ^ l.length
  | [], _ => by simp [dval_nil]
  | c :: r, h => by
    have h1 := dval_lt (l := r) fun x hx => h x (List.mem_cons_of_mem _ hx)
    have h2 := h c (List.mem_cons_self ..)
    rw [dval_cons, List.length_cons, Nat.pow_succ]
    have h3 : (c - 48) * 10 ^ r.length ≤ 9 * 10 ^ r.length := Nat.mul_le_mul_right _ (by omega)
    omega
theorem dval_ge {c : Nat} {r : Codes} (h : 49 ≤ c) : 10 ^ r.length ≤ dval (c :: r) := by
  rw [dval_cons]
  have h3 : 1 * 10 ^ r.length ≤ (c - 48) * 10 ^ r.length := Nat.mul_le_mul_right _ (by omega)
  omega
/-- of one length: as Python orders strings -/
theorem lex_val : ∀ {a b : Codes}, dig a → dig b → a.length = b.length → (a < b ↔ dval a < dval b)
  | [], [], _, _, _ => by
    constructor
    · intro h; exact absurd h (List.lt_irrefl _)
    · intro h; exact absurd h (Nat.lt_irrefl _)
  | c :: r, d :: t, ha, hb, hl => by
    have hl2 : r.length = t.length := by simpa using hl
    have har : dig r := fun x hx => ha x (List.mem_cons_of_mem _ hx)
    have hbt : dig t := fun x hx => hb x (List.mem_cons_of_mem _ hx)
    have hc := ha c (List.mem_cons_self ..)
    have hd := hb d (List.mem_cons_self ..)
    have ih := lex_val har hbt hl2
    have h1 := dval_lt har
    have h2 := dval_lt hbt
    rw [dval_cons, dval_cons, List.cons_lt_cons_iff, ← hl2]
    rw [← hl2] at h2
    constructor
    · rintro (h | ⟨rfl, h⟩)
      · have h3 : (c - 48 + 1) * 10 ^ r.length ≤ (d - 48) * 10 ^ r.length := Nat.mul_le_mul_right _ (by omega)
        rw [Nat.add_mul, Nat.one_mul] at h3
        omega
      · have := ih.mp h
        omega
    · intro h
      rcases Nat.lt_trichotomy c d with h3 | h3 | h3
      · exact .inl h3
      · subst h3
        exact .inr ⟨rfl, ih.mpr (by omega)⟩
      · have h4 : (d - 48 + 1) * 10 ^ r.length ≤ (c - 48) * 10 ^ r.length := Nat.mul_le_mul_right _ (by omega)
        rw [Nat.add_mul, Nat.one_mul] at h4
        omega
  | [], _ :: _, _, _, h => by cases h
  | _ :: _, [], _, _, h => by cases h
theorem num0_pos {a : Codes} (h : num0 a) (hn : a ≠ [48]) : ∃ c r, a = c :: r ∧ 49 ≤ c := by
  obtain ⟨hd, hne, h3⟩ := h
  cases a with
  | nil => exact absurd rfl hne
  | cons c r =>
    refine ⟨c, r, rfl, ?_⟩
    have hc := hd c (List.mem_cons_self ..)
    rcases h3 with h3 | h3
    · exact absurd h3 hn
    · have : c ≠ 48 := fun e => h3 (by rw [e]; rfl)
      omega
/-- sign by sign: shorter is less -/
theorem num0_less {a b : Codes} (ha : num0 a) (hb : num0 b) : (a.length < b.length ∨ (a.length = b.length ∧ a < b)) ↔ dval a < dval b := by
  rcases Nat.lt_trichotomy a.length b.length with h | h | h
  · refine ⟨fun _ => ?_, fun _ => .inl h⟩
    have hb1 : b ≠ [48] := fun e => by
      have h1 : b.length = 1 := by rw [e]; rfl
      have : a.length ≠ 0 := fun z => ha.2.1 (List.length_eq_zero_iff.mp z)
      omega
    obtain ⟨c, r, rfl, hc⟩ := num0_pos hb hb1
    have h1 := dval_lt ha.1
    have h2 := dval_ge (r := r) hc
    have h3 : 10 ^ a.length ≤ 10 ^ r.length := Nat.pow_le_pow_right (by decide) (by rw [List.length_cons] at h; omega)
    omega
  · rw [← lex_val ha.1 hb.1 h]
    exact ⟨fun z => z.elim (fun y => absurd y (by omega)) (·.2), fun z => .inr ⟨h, z⟩⟩
  · have ha1 : a ≠ [48] := fun e => by
      have h1 : a.length = 1 := by rw [e]; rfl
      have : b.length ≠ 0 := fun z => hb.2.1 (List.length_eq_zero_iff.mp z)
      omega
    obtain ⟨c, r, rfl, hc⟩ := num0_pos ha ha1
    have h1 := dval_lt hb.1
    have h2 := dval_ge (r := r) hc
    have h3 : 10 ^ b.length ≤ 10 ^ r.length := Nat.pow_le_pow_right (by decide) (by rw [List.length_cons] at h; omega)
    refine ⟨fun z => z.elim (fun y => absurd y (by omega)) (fun y => absurd y.1 (by omega)), fun z => absurd z (by omega)⟩
theorem num0_no45 {a : Codes} (h : num0 a) : ∀ d, a ≠ 45 :: d := fun d e => by
  have := h.1 45 (by rw [e]; exact List.mem_cons_self ..)
  omega
theorem nval_pos {a : Codes} (h : num0 a) : nval a = ((dval a : Nat) : Int) := by
  unfold nval
  split
  · exact absurd rfl (num0_no45 h _)
  · rfl
theorem dval_pos {a : Codes} (h : num0 a) (hn : a ≠ [48]) : 0 < dval a := by
  obtain ⟨c, r, rfl, hc⟩ := num0_pos h hn
  have := dval_ge (r := r) hc
  have : 0 < 10 ^ r.length := Nat.pow_pos (by decide)
  omega
theorem int_of_num {s : Codes} (h : isNum s) : PySem.intText? (SX.S s) = some (nval s) := by
  obtain ⟨h, hl⟩ := h
  rcases h with h | ⟨d, rfl, h, _⟩
  · rw [nval_pos h]
    exact intText_digits (x := SX.S s) h.1 h.2.1 (by rw [SX.S_len]; omega)
  · exact intText_neg (x := SX.S (45 :: d)) (cs := d) rfl h.1 h.2.1 (by rw [SX.S_len]; omega)
/-- the law's comparison -/
def numLess0 (a b : Codes) : Bool := decide (a.length < b.length) || (decide (a.length = b.length) && decide (a < b))
def numLess (a b : Codes) : Bool := if a.head? = some 45 ∧ b.head? = some 45 then numLess0 (b.drop 1) (a.drop 1) else if a.head? = some 45 ∨ b.head? = some 45 then decide (a.head? = some 45) else numLess0 a b
theorem numLess0_val {a b : Codes} (ha : num0 a) (hb : num0 b) : numLess0 a b = decide (dval a < dval b) := by
  unfold numLess0
  have h := num0_less ha hb
  by_cases h1 : dval a < dval b
  · rw [decide_eq_true h1]
    rcases h.mpr h1 with h2 | ⟨h2, h3⟩
    · rw [decide_eq_true h2]; rfl
    · rw [decide_eq_true h2, decide_eq_true h3, Bool.and_self, Bool.or_true]
  · rw [decide_eq_false h1]
    have h2 := fun z => h1 (h.mp z)
    rw [decide_eq_false fun z => h2 (.inl z)]
    by_cases h3 : a.length = b.length
    · rw [decide_eq_true h3, decide_eq_false fun z => h2 (.inr ⟨h3, z⟩)]; rfl
    · rw [decide_eq_false h3]; rfl
theorem head45 {a : Codes} (h : num0 a) : a.head? ≠ some 45 := by
  cases a with
  | nil => simp
  | cons c r =>
    intro e
    have : c = 45 := Option.some.inj e
    exact num0_no45 h r (by rw [this])
theorem numLess_val {a b : Codes} (ha : isNum a) (hb : isNum b) : numLess a b = decide (nval a < nval b) := by
  unfold numLess
  rcases ha.1 with ha | ⟨d, rfl, ha, han⟩ <;> rcases hb.1 with hb | ⟨e, rfl, hb, hbn⟩
  · rw [if_neg fun z => head45 ha z.1, if_neg fun z => z.elim (head45 ha) (head45 hb), numLess0_val ha hb, nval_pos ha, nval_pos hb]
    by_cases h : dval a < dval b
    · rw [decide_eq_true h, decide_eq_true (by omega)]
    · rw [decide_eq_false h, decide_eq_false (by omega)]
  · rw [if_neg fun z => head45 ha z.1, if_pos (.inr rfl), decide_eq_false (head45 ha), nval_pos ha]
    show false = decide (_ < -((dval e : Nat) : Int))
    rw [decide_eq_false (by omega)]
  · rw [if_neg fun z => head45 hb z.2, if_pos (.inl rfl), decide_eq_true (show (45 :: d).head? = some 45 from rfl), nval_pos hb]
    show true = decide (-((dval d : Nat) : Int) < _)
    have := dval_pos ha han
    rw [decide_eq_true (by omega)]
  · rw [if_pos ⟨rfl, rfl⟩]
    show numLess0 e d = decide (-((dval d : Nat) : Int) < -((dval e : Nat) : Int))
    rw [numLess0_val hb ha]
    by_cases h : dval e < dval d
    · rw [decide_eq_true h, decide_eq_true (by omega)]
    · rw [decide_eq_false h, decide_eq_false (by omega)]

end My
namespace My
open PySem PySem.Spec PyProof.Rows L2
-- plain
/-! ### normal forms -/
theorem isWord_len {w : Codes} (h : isWordL w = true) : 1 ≤ w.length ∧ w.length ≤ 12 := by
  unfold isWordL at h
  exact of_decide_eq_true ((Bool.and_eq_true _ _).mp h).1
theorem isText_len {w : Codes} (h : isTextL w = true) : 1 ≤ w.length ∧ w.length ≤ 60 := by
  unfold isTextL at h
  exact of_decide_eq_true ((Bool.and_eq_true _ _).mp h).1
/-- a pair as a relative name has it -/
def okPair (q : Pair) : Prop := isWordL q.1 = true ∧ isTextL q.2 = true
theorem pairLaw_ok {p : Codes} {q : Pair} (h : pairLaw p = some q) : okPair q := by
  obtain ⟨w, v⟩ := q
  obtain ⟨raw, _, h1, h2, _⟩ := pairLaw_form h
  exact ⟨h1, h2⟩
theorem leafL_ok : ∀ (ps : List Codes) (acc r : List Pair), ((∀ q ∈ acc, okPair q) ∧ (acc.map Prod.fst).Nodup) → leafL acc ps = some r → (∀ q ∈ r, okPair q) ∧ (r.map Prod.fst).Nodup
  | [], acc, r, h, e => by
    cases e
    exact h
  | p :: ps, acc, r, h, e => by
    rw [leafL_cons] at e
    cases hp : pairLaw p with
    | none => rw [hp] at e; cases e
    | some q =>
      rw [hp] at e
      dsimp only at e
      split at e
      · cases e
      · rename_i hn
        refine leafL_ok ps (acc ++ [q]) r ⟨fun x hx => ?_, ?_⟩ e
        · rcases List.mem_append.mp hx with hx | hx
          · exact h.1 x hx
          · rw [List.mem_singleton.mp hx]; exact pairLaw_ok hp
        · rw [List.map_append, List.nodup_append]
          refine ⟨h.2, by simp, fun a ha b hb => ?_⟩
          rw [List.map_cons, List.map_nil, List.mem_singleton] at hb
          rw [hb]
          exact fun z => hn (z ▸ ha)
/-- a relative name's pairs -/
def okLeaf (ps : List Pair) : Prop := ps.length ≤ 4 ∧ (∀ q ∈ ps, okPair q) ∧ (ps.map Prod.fst).Nodup
theorem lawLeaf_ok {l : Codes} {ps : List Pair} (h : lawLeaf l = some ps) : okLeaf ps := by
  unfold lawLeaf at h
  split at h
  · cases h
  · rename_i r hr
    split at h
    · rename_i h4
      cases h
      have := leafL_ok _ [] _ ⟨fun q hq => (nomatch hq), by simp⟩ hr
      exact ⟨h4, this.1, this.2⟩
    · cases h
def okName (ls : List (List Pair)) : Prop := ls.length ≤ 12 ∧ ∀ ps ∈ ls, okLeaf ps
theorem somes_of {α : Type} : ∀ {os : List (Option α)}, none ∉ os → os = (os.filterMap id).map some
  | [], _ => rfl
  | none :: os, h => absurd (List.mem_cons_self ..) h
  | some a :: os, h => by
    have ih := somes_of (os := os) fun z => h (List.mem_cons_of_mem _ z)
    show some a :: os = (a :: os.filterMap id).map some
    rw [List.map_cons, ← ih]
theorem lawName_ok {l : Codes} {ls : List (List Pair)} (h : lawName l = some ls) : okName ls ∧ (asc l → ∀ ps ∈ ls, ∀ q ∈ ps, asc q.1 ∧ asc q.2) := by
  unfold lawName at h
  dsimp only at h
  generalize hos : (if l = [] then [] else (sp 44 [] l).map lawLeaf) = os at h
  split at h
  · cases h
  · rename_i hn
    cases h
    have hn1 : none ∉ os := fun z => hn (.inl z)
    have hn2 : os.length ≤ 12 := by
      refine Nat.le_of_not_lt fun z => hn (.inr z)
    have e := somes_of hn1
    have hm : ∀ ps ∈ os.filterMap id, ∃ p ∈ sp 44 [] l, lawLeaf p = some ps := fun ps hps => by
      have h1 : some ps ∈ os := by rw [e]; exact List.mem_map.mpr ⟨ps, hps, rfl⟩
      rw [← hos] at h1
      split at h1
      · cases h1
      · obtain ⟨p, hp, hq⟩ := List.mem_map.mp h1
        exact ⟨p, hp, hq⟩
    refine ⟨⟨?_, fun ps hps => ?_⟩, fun ha ps hps => ?_⟩
    · have h1 := congrArg List.length e
      rw [List.length_map] at h1
      omega
    · obtain ⟨p, _, hp⟩ := hm ps hps
      exact lawLeaf_ok hp
    · obtain ⟨p, hp, hq⟩ := hm ps hps
      exact lawLeaf_asc (sp_asc ha hp) hq
theorem okPair_short {ps : List Pair} {b : Nat} (hb : 60 ≤ b) (h : okLeaf ps) : shortP b ps := ⟨by have := h.1; omega, fun q hq => by
  have h1 := isWord_len (h.2.1 q hq).1
  have h2 := isText_len (h.2.1 q hq).2
  omega⟩
/-- pairs in the order of words -/
def sortP (ps : List Pair) : List Pair := sortO (fun a b : Pair => kyLt [a.1, a.2] [b.1, b.2]) ps
def lowP (ps : List Pair) : List Pair := ps.map fun q => (q.1, plainL q.2)
def normLeaf (ps : List Pair) : Codes := leafLine (sortP (lowP ps))
def normName (ls : List (List Pair)) : Codes := TL.joinL [44] (ls.map normLeaf)
theorem pairO : SrtO.Swo (fun a b : Pair => kyLt [a.1, a.2] [b.1, b.2]) := kyLt_swo fun q : Pair => [q.1, q.2]
theorem sortP_perm (ps : List Pair) : (sortP ps).Perm ps := (sortO_ok pairO ps).2.perm
theorem sortP_short {ps : List Pair} {b : Nat} (h : shortP b ps) : shortP b (sortP (lowP ps)) := by
  have hp := sortP_perm (lowP ps)
  refine ⟨by rw [hp.length_eq]; unfold lowP; rw [List.length_map]; exact h.1, fun q hq => ?_⟩
  obtain ⟨a, ha, rfl⟩ := List.mem_map.mp (hp.mem_iff.mp hq)
  have h1 := h.2 a ha
  have h2 := plainL_len a.2
  exact ⟨h1.1, by show (plainL a.2).length ≤ b; omega⟩
theorem normLeaf_len {ps : List Pair} (h : okLeaf ps) : (normLeaf ps).length ≤ 568 := by
  have h1 := leafLine_len (sortP_short (okPair_short (b := 60) (Nat.le_refl _) h))
  have h2 : (sortP (lowP ps)).length = ps.length := by rw [(sortP_perm _).length_eq]; unfold lowP; rw [List.length_map]
  have h3 := h.1
  unfold normLeaf
  have h4 : (sortP (lowP ps)).length * (22 + 2 * 60) ≤ 4 * 142 := Nat.mul_le_mul (by omega) (by decide)
  omega
theorem normName_len {ls : List (List Pair)} (h : okName ls) : (normName ls).length ≤ 7000 ∧ ((ls.map normLeaf).map (·.length)).sum + ls.length ≤ 7000 := by
  have h0 := joinL_len [44] (ls.map normLeaf)
  have h1 := sum_le (fun x : Codes => x.length) 568 (ls.map normLeaf) (fun x hx => by
    obtain ⟨a, ham, rfl⟩ := List.mem_map.mp hx
    exact normLeaf_len (h.2 a ham))
  rw [List.length_map] at h0 h1
  have h2 := h.1
  have h3 : ls.length * 568 ≤ 12 * 568 := Nat.mul_le_mul_right _ h2
  unfold normName
  simp only [List.length_singleton, Nat.mul_one] at h0
  omega
/-- the normal form of a text, by its syntax -/
def nS (k : Nat) (l : Codes) : Codes := if k = 4 then (match lawName l with
  | some ls => normName ls
  | none => []) else if k = 0 then plainL l else l

end My
namespace My
open PySem PySem.Spec PyProof.Rows L2
-- plain
/-! ### a line of pairs is read back -/
def clo (m : Nat) (p : Codes) : Prop := ∀ acc z, sp m acc (p ++ z) = sp m (acc ++ p) z
theorem clo_nil {m : Nat} : clo m [] := fun acc z => by rw [List.nil_append, List.append_nil]
theorem clo_app {m : Nat} {p q : Codes} (hp : clo m p) (hq : clo m q) : clo m (p ++ q) := fun acc z => by rw [List.append_assoc, hp, hq, List.append_assoc]
theorem clo_one {m c : Nat} (h1 : c ≠ m) (h2 : c ≠ 92) : clo m [c] := fun acc z => sp_plain acc z h1 h2
theorem clo_esc {m c : Nat} (h : m ≠ 92) : clo m [92, c] := fun acc z => by
  show sp m acc (92 :: c :: z) = _
  rw [sp_cons2, if_neg (fun e => h e.symm), if_pos rfl]
def mark (m : Nat) : Prop := m = 44 ∨ m = 43 ∨ m = 61
theorem clo_letters {m : Nat} (hm : mark m) : ∀ {w : Codes}, letters w → clo m w
  | [], _ => clo_nil
  | c :: r, h => by
    have h1 := h c (List.mem_cons_self ..)
    refine clo_app (p := [c]) (clo_one ?_ ?_) (clo_letters hm fun x hx => h x (List.mem_cons_of_mem _ hx))
    · rcases hm with z | z | z <;> omega
    · omega
theorem clo_escF {m n : Nat} (hm : mark m) : ∀ {l : Codes} {i : Nat}, clo m (escF n i l)
  | [], _ => clo_nil
  | c :: r, i => by
    have ih : clo m (escF n (i + 1) r) := clo_escF hm
    rw [escF_cons]
    cases h : must n i c with
    | true => exact clo_app (p := [92, c]) (clo_esc (by rcases hm with z | z | z <;> omega)) ih
    | false =>
      have hc : ¬ (c = 44 ∨ c = 43 ∨ c = 61 ∨ c = 92) := fun z => by
        unfold must at h
        rw [decide_eq_true z] at h
        cases h
      refine clo_app (p := [c]) (clo_one ?_ (fun z => hc (.inr (.inr (.inr z))))) ih
      rcases hm with z | z | z <;> intro e <;> apply hc <;> omega
theorem sp_clo {m : Nat} {p : Codes} (h : clo m p) : sp m [] p = [p] := by
  have := h [] []
  rw [List.append_nil, List.nil_append] at this
  rw [this]
  rfl
theorem sp_join {m : Nat} : ∀ {ps : List Codes}, ps ≠ [] → (∀ p ∈ ps, clo m p) → sp m [] (TL.joinL [m] ps) = ps
  | [], h, _ => absurd rfl h
  | [p], _, h => by rw [joinL_one, sp_clo (h p (List.mem_cons_self ..))]
  | p :: q :: r, _, h => by
    have ih := sp_join (m := m) (ps := q :: r) (by simp) fun x hx => h x (List.mem_cons_of_mem _ hx)
    rw [joinL_cons2, List.append_assoc]
    rw [h p (List.mem_cons_self ..) [] _, List.nil_append]
    show sp m p (m :: TL.joinL [m] (q :: r)) = _
    rw [sp_mark, ih]
theorem clo_join {m k : Nat} (hk : clo m [k]) : ∀ {ps : List Codes}, (∀ p ∈ ps, clo m p) → clo m (TL.joinL [k] ps)
  | [], _ => clo_nil
  | [p], h => by rw [joinL_one]; exact h p (List.mem_cons_self ..)
  | p :: q :: r, h => by
    have ih := clo_join hk (ps := q :: r) fun x hx => h x (List.mem_cons_of_mem _ hx)
    rw [joinL_cons2]
    exact clo_app (clo_app (h p (List.mem_cons_self ..)) hk) ih
theorem clo_pairL {m : Nat} (hm : m = 44 ∨ m = 43) {q : Pair} (h : isWordL q.1 = true) : clo m (pairL q) := by
  have hm' : mark m := hm.elim .inl fun z => .inr (.inl z)
  exact clo_app (clo_app (clo_letters hm' (isWordL_letters h)) (clo_one (by rcases hm with z | z <;> omega) (by decide))) (clo_escF hm')
theorem bareL_escL (v : Codes) : bareL (escL v) = some v := by
  unfold bareL escL
  rw [escF_enc, enc_bare]
  exact if_pos rfl
theorem pairLaw_back {q : Pair} (h : okPair q) : pairLaw (pairL q) = some q := by
  unfold pairLaw pairL
  rw [List.append_assoc, show ([61] ++ escL q.2 : Codes) = 61 :: escL q.2 from rfl, sp_word (isWordL_letters h.1), sp_clo (p := escL q.2) (clo_escF (.inr (.inr rfl))), List.nil_append]
  dsimp only
  rw [bareL_escL]
  dsimp only
  rw [h.1, h.2]
  rfl
theorem leafL_back : ∀ {ps acc : List Pair}, (∀ q ∈ ps, okPair q) → ((acc ++ ps).map Prod.fst).Nodup → leafL acc (ps.map pairL) = some (acc ++ ps)
  | [], acc, _, _ => by rw [List.append_nil]; rfl
  | q :: ps, acc, h, hn => by
    have e : acc ++ q :: ps = acc ++ [q] ++ ps := by simp
    rw [List.map_cons, leafL, pairLaw_back (h q (List.mem_cons_self ..))]
    dsimp only
    rw [if_neg, leafL_back (fun x hx => h x (List.mem_cons_of_mem _ hx)) (by rw [← e]; exact hn), ← e]
    intro hq
    rw [List.map_append, List.map_cons] at hn
    exact (List.nodup_append.mp hn).2.2 _ hq _ (List.mem_cons_self ..) rfl
theorem lawLeaf_back {ps : List Pair} (h : okLeaf ps) (h0 : ps ≠ []) : lawLeaf (leafLine ps) = some ps := by
  unfold lawLeaf leafLine
  rw [sp_join (by simpa using h0) (fun p hp => by
    obtain ⟨q, hq, rfl⟩ := List.mem_map.mp hp
    exact clo_pairL (.inr rfl) (h.2.1 q hq).1), leafL_back (acc := []) h.2.1 h.2.2, List.nil_append]
  exact if_pos h.1
theorem clo_leafLine {ps : List Pair} (h : okLeaf ps) : clo 44 (leafLine ps) := clo_join (clo_one (by decide) (by decide)) fun p hp => by
  obtain ⟨q, hq, rfl⟩ := List.mem_map.mp hp
  exact clo_pairL (.inl rfl) (h.2.1 q hq).1
theorem leafLine_ne {ps : List Pair} (h : okLeaf ps) (h0 : ps ≠ []) : leafLine ps ≠ [] := fun z => by
  have := lawLeaf_back h h0
  rw [z] at this
  cases this
theorem lineL_ne {ls : List (List Pair)} (h : ∀ ps ∈ ls, okLeaf ps ∧ ps ≠ []) (h0 : ls ≠ []) : lineL ls ≠ [] := by
  match ls, h0 with
  | [ps], _ => unfold lineL; rw [List.map_cons, List.map_nil, joinL_one]; exact leafLine_ne (h ps (List.mem_cons_self ..)).1 (h ps (List.mem_cons_self ..)).2
  | ps :: q :: r, _ => unfold lineL; rw [List.map_cons, List.map_cons, joinL_cons2]; simp
theorem lawName_back {ls : List (List Pair)} (h : okName ls) (h0 : ls ≠ []) (h1 : ∀ ps ∈ ls, ps ≠ []) : lawName (lineL ls) = some ls := by
  have hne := lineL_ne (fun ps hp => ⟨h.2 ps hp, h1 ps hp⟩) h0
  have hs : sp 44 [] (lineL ls) = ls.map leafLine := sp_join (by simpa using h0) fun p hp => by
    obtain ⟨ps, hps, rfl⟩ := List.mem_map.mp hp
    exact clo_leafLine (h.2 ps hps)
  have hm : (ls.map leafLine).map lawLeaf = ls.map some := by
    rw [List.map_map]
    exact List.map_congr_left fun ps hp => lawLeaf_back (h.2 ps hp) (h1 ps hp)
  unfold lawName
  dsimp only
  rw [if_neg hne, hs, hm, if_neg]
  · rw [List.filterMap_map]
    exact congrArg some (List.filterMap_some ..)
  · intro z
    rcases z with z | z
    · obtain ⟨a, _, e⟩ := List.mem_map.mp z
      cases e
    · rw [List.length_map] at z
      have := h.1
      omega

end My
namespace My
open PySem PySem.Spec PyProof.Rows L2
-- plain
/-! ### normal forms are their own normal forms -/
theorem lo1_idem (c : Nat) : PyProof.Rows.lo1 (PyProof.Rows.lo1 c) = PyProof.Rows.lo1 c := by
  unfold PyProof.Rows.lo1
  repeat' split
  all_goals omega
theorem lowT_ind {p : Codes → Prop} (q : Nat → Prop) (h0 : p []) (h1 : ∀ X c, p X → q c → p (lowStep X (PyProof.Rows.lo1 c))) (l : Codes) (hl : ∀ c ∈ l, q c) : p (lowT l) := by
  have main : ∀ (l X : Codes), p X → (∀ c ∈ l, q c) → p ((lowL l).foldl lowStep X) := by
    intro l
    induction l with
    | nil => exact fun X h _ => h
    | cons c r ih => exact fun X h hq => ih _ (h1 X c h (hq c (List.mem_cons_self ..))) fun x hx => hq x (List.mem_cons_of_mem _ hx)
  exact main l [] h0 hl
theorem lowT_idem (l : Codes) : lowT (lowT l) = lowT l := lowT_ind (p := fun X => lowT X = X) (fun _ => True) rfl (fun X c h _ => by
  by_cases hc : PyProof.Rows.lo1 c ≠ 32 ∨ (X ≠ [] ∧ X.getLast? ≠ some 32)
  · have e : lowStep X (PyProof.Rows.lo1 c) = X ++ [PyProof.Rows.lo1 c] := if_pos hc
    rw [e, lowT_snoc, h, lo1_idem, e]
  · have e : lowStep X (PyProof.Rows.lo1 c) = X := if_neg hc
    rw [e, h]) l fun _ _ => trivial
theorem lowEnd_fix {X : Codes} (h : lowT X = X) : lowT (lowEnd X) = lowEnd X ∧ lowEnd (lowEnd X) = lowEnd X := by
  by_cases hl : X.getLast? = some 32
  · have e : lowEnd X = X.dropLast := if_pos hl
    obtain ⟨Y, rfl⟩ : ∃ Y, X = Y ++ [32] := List.getLast?_eq_some_iff.mp hl
    rw [List.dropLast_concat] at e
    rw [lowT_snoc] at h
    have h32 : PyProof.Rows.lo1 32 = 32 := rfl
    rw [h32] at h
    have hlen := lowT_len Y
    by_cases hc : lowT Y ≠ [] ∧ (lowT Y).getLast? ≠ some 32
    · rw [lowStep_yes hc] at h
      have hY : lowT Y = Y := List.append_cancel_right h
      rw [hY] at hc
      rw [e]
      exact ⟨hY, if_neg hc.2⟩
    · rw [lowStep_no hc] at h
      rw [h, List.length_append, List.length_singleton] at hlen
      omega
  · have e : lowEnd X = X := if_neg hl
    rw [e]
    exact ⟨h, e⟩
theorem plain_lowT (l : Codes) : plainL l = lowEnd (lowT l) := (low_plain l).symm
theorem plainL_idem (l : Codes) : plainL (plainL l) = plainL l := by
  rw [plain_lowT l, plain_lowT (lowEnd (lowT l)), (lowEnd_fix (lowT_idem l)).1, (lowEnd_fix (lowT_idem l)).2]
theorem lowT_prn {l : Codes} (h : prn l) : prn (lowT l) := lowT_ind (p := prn) (fun c => 32 ≤ c ∧ c < 127) (fun c h => nomatch h) (fun X c hX hc => by
  unfold lowStep
  split
  · exact prn_app hX fun x hx => by rw [List.mem_singleton.mp hx]; exact lo_prn c hc.2 hc.1
  · exact hX) l h
theorem plainL_prn {l : Codes} (h : prn l) : prn (plainL l) := by
  rw [plain_lowT]
  unfold lowEnd
  split
  · exact prn_sub (fun c hc => List.dropLast_subset _ hc) (lowT_prn h)
  · exact lowT_prn h
theorem inky_plain {l : Codes} : inky l ↔ plainL l ≠ [] := by
  unfold inky
  constructor
  · intro ⟨c, hc, h⟩ z
    exact h ((plainL_nil l).mp z c hc)
  · intro h
    exact Classical.byContradiction fun z => h ((plainL_nil l).mpr fun c hc => Classical.byContradiction fun y => z ⟨c, hc, y⟩)
theorem plainL_inky {l : Codes} (h : inky l) : inky (plainL l) := by
  rw [inky_plain, plainL_idem]
  exact inky_plain.mp h
theorem prn_no10 {l : Codes} (h : prn l) : 10 ∉ l := fun z => by have := (h 10 z).1; omega
theorem inky_pos {l : Codes} (h : inky l) : 0 < l.length := by
  obtain ⟨c, hc, _⟩ := h
  exact List.length_pos_of_mem hc
theorem isText_of {l : Codes} (h1 : prn l) (h2 : inky l) (h3 : l.length ≤ 60) : isTextL l = true := by
  unfold isTextL
  have hp := inky_pos h2
  have hs : stripL l [32] ≠ [] := fun z => by
    obtain ⟨c, hc, hn⟩ := h2
    exact hn (List.mem_singleton.mp (strip_nil.mp z c hc))
  rw [decide_eq_true (by omega), decide_eq_false (prn_no10 h1), decide_eq_false hs]
  rfl
/-! a name whose values are printable -/
structure goodP (b : Nat) (q : Pair) : Prop where
  word : isWordL q.1 = true
  prn : prn q.2
  ink : inky q.2
  len : q.2.length ≤ b
structure goodL (b : Nat) (ps : List Pair) : Prop where
  ne : ps ≠ []
  len : ps.length ≤ 4
  pr : ∀ q ∈ ps, goodP b q
  nd : (ps.map Prod.fst).Nodup
structure goodN (b : Nat) (ls : List (List Pair)) : Prop where
  ne : ls ≠ []
  len : ls.length ≤ 3
  pr : ∀ ps ∈ ls, goodL b ps
theorem goodL.ok {b : Nat} {ps : List Pair} (hb : b ≤ 60) (h : goodL b ps) : okLeaf ps := ⟨h.len, fun q hq => ⟨(h.pr q hq).word, isText_of (h.pr q hq).prn (h.pr q hq).ink (Nat.le_trans (h.pr q hq).len hb)⟩, h.nd⟩
theorem goodN.ok {b : Nat} {ls : List (List Pair)} (hb : b ≤ 60) (h : goodN b ls) : okName ls := ⟨by have := h.len; omega, fun ps hp => (h.pr ps hp).ok hb⟩
def lowLf (ps : List Pair) : List Pair := sortP (lowP ps)
theorem lowLf_mem {ps : List Pair} {q : Pair} (h : q ∈ lowLf ps) : ∃ a ∈ ps, q = (a.1, plainL a.2) := by
  obtain ⟨a, ha, e⟩ := List.mem_map.mp ((sortP_perm _).mem_iff.mp h)
  exact ⟨a, ha, e.symm⟩
theorem lowLf_good {b : Nat} {ps : List Pair} (h : goodL b ps) : goodL b (lowLf ps) := by
  have hp := sortP_perm (lowP ps)
  have hl : (lowLf ps).length = ps.length := by rw [show lowLf ps = sortP (lowP ps) from rfl, hp.length_eq]; exact List.length_map ..
  refine ⟨fun z => h.ne ?_, by rw [hl]; exact h.len, fun q hq => ?_, ?_⟩
  · rw [z] at hl
    exact List.length_eq_zero_iff.mp hl.symm
  · obtain ⟨a, ha, rfl⟩ := lowLf_mem hq
    have g := h.pr a ha
    exact ⟨g.word, plainL_prn g.prn, plainL_inky g.ink, Nat.le_trans (plainL_len _) g.len⟩
  · have e : (lowP ps).map Prod.fst = ps.map Prod.fst := by unfold lowP; rw [List.map_map]; rfl
    exact (hp.map Prod.fst).nodup_iff.mpr (by rw [e]; exact h.nd)
theorem lowLf_idem (ps : List Pair) : lowLf (lowLf ps) = lowLf ps := by
  have e : lowP (lowLf ps) = lowLf ps := by
    have : ∀ q ∈ lowLf ps, ((q.1, plainL q.2) : Pair) = q := fun q hq => by
      obtain ⟨a, _, rfl⟩ := lowLf_mem hq
      rw [plainL_idem]
    unfold lowP
    exact (List.map_congr_left this).trans (List.map_id _)
  show sortP (lowP (lowLf ps)) = _
  rw [e]
  exact (sortO_uniq pairO (sortO_ok pairO (lowP ps)).1 (.refl _)).symm
theorem lowN_good {b : Nat} {ls : List (List Pair)} (h : goodN b ls) : goodN b (ls.map lowLf) := ⟨fun z => h.ne (List.map_eq_nil_iff.mp z), by rw [List.length_map]; exact h.len, fun ps hp => by
  obtain ⟨a, ha, rfl⟩ := List.mem_map.mp hp
  exact lowLf_good (h.pr a ha)⟩
theorem norm_line (ls : List (List Pair)) : normName ls = lineL (ls.map lowLf) := by
  unfold normName lineL
  rw [List.map_map]
  rfl
theorem good_read {b : Nat} {ls : List (List Pair)} (hb : b ≤ 60) (h : goodN b ls) : lawName (lineL ls) = some ls := lawName_back (h.ok hb) h.ne fun ps hp => (h.pr ps hp).ne
theorem word_prn {w : Codes} (h : isWordL w = true) : prn w := fun c hc => by have := isWordL_letters h c hc; omega
theorem good_norm {b : Nat} {ls : List (List Pair)} (hb : b ≤ 60) (h : goodN b ls) : nS 4 (lineL ls) = lineL (ls.map lowLf) := by
  unfold nS
  rw [if_pos rfl, good_read hb h]
  exact norm_line ls
theorem good_idem {b : Nat} {ls : List (List Pair)} (hb : b ≤ 60) (h : goodN b ls) : nS 4 (nS 4 (lineL ls)) = nS 4 (lineL ls) := by
  rw [good_norm hb h, good_norm hb (lowN_good h), List.map_map]
  congr 1
  exact List.map_congr_left fun ps _ => lowLf_idem ps

end My
namespace My
open PySem PySem.Spec PyProof.Rows L2
-- plain
theorem escF_prn {n : Nat} : ∀ {l : Codes} {i : Nat}, prn l → prn (escF n i l)
  | [], _, _ => fun c h => nomatch h
  | c :: r, i, h => by
    have h1 := h c (List.mem_cons_self ..)
    have h2 : prn r := prn_sub (fun x hx => List.mem_cons_of_mem _ hx) h
    rw [escF_cons]
    refine prn_app (by split <;> intro x hx <;> first | (cases hx; done) | (rw [List.mem_singleton.mp hx]; decide)) (prn_app (a := [c]) (prn_one h1) (escF_prn h2))
theorem joinL_prn {sep : Codes} (hs : prn sep) : ∀ {ls : List Codes}, (∀ x ∈ ls, prn x) → prn (TL.joinL sep ls)
  | [], _ => fun c h => nomatch h
  | [x], h => by rw [joinL_one]; exact h x (List.mem_cons_self ..)
  | x :: y :: r, h => by
    rw [joinL_cons2]
    have h1 := joinL_prn hs (ls := y :: r) fun z hz => h z (List.mem_cons_of_mem _ hz)
    have h2 := h x (List.mem_cons_self ..)
    first
      | exact prn_app (prn_app h2 hs) h1
      | exact prn_app h2 (prn_app hs h1)
theorem leafLine_prn {ps : List Pair} (h : ∀ q ∈ ps, prn q.1 ∧ prn q.2) : prn (leafLine ps) := joinL_prn (prn_one (by decide)) fun x hx => by
  obtain ⟨q, hq, rfl⟩ := List.mem_map.mp hx
  exact prn_app (prn_app (h q hq).1 (prn_one (by decide))) (escF_prn (h q hq).2)
theorem lineL_prn {ls : List (List Pair)} (h : ∀ ps ∈ ls, ∀ q ∈ ps, prn q.1 ∧ prn q.2) : prn (lineL ls) := joinL_prn (prn_one (by decide)) fun x hx => by
  obtain ⟨ps, hp, rfl⟩ := List.mem_map.mp hx
  exact leafLine_prn (h ps hp)

end My
namespace My
open PySem PySem.Spec PyProof.Rows L2
-- plain
/-! ### rows of texts, as Python orders tuples -/
def ltO : List Codes → List Codes → Bool
  | [], [] => false
  | [], _ :: _ => true
  | _ :: _, [] => false
  | a :: as, b :: bs => if a = b then ltO as bs else decide (a < b)
def dS (l : Codes) : PyData := .str (SX.S l)
theorem toDataL_strs : ∀ xs : List Codes, toDataL (xs.map D.str) = some (xs.map dS)
  | [] => rfl
  | x :: xs => by
    rw [List.map_cons]
    unfold toDataL
    rw [toDataL_strs xs]
    rfl
theorem eqv_dS {a b : Codes} : PyData.eqv (dS a) (dS b) = decide (a = b) := by
  unfold dS
  simp only [PyData.eqv]
  by_cases h : a = b
  · subst h; simp
  · rw [decide_eq_false h]
    apply beq_eq_false_iff_ne.mpr
    intro z
    apply h
    have := congrArg (fun x : Str => x.cps.toList) z
    simpa [SX.S] using this
theorem alike_dS : ∀ xs ys : List Codes, PySem.W.alikeAll (xs.map dS) (ys.map dS) = true
  | [], _ => by simp [PySem.W.alikeAll]
  | _ :: _, [] => by simp [PySem.W.alikeAll]
  | x :: xs, y :: ys => by
    rw [List.map_cons, List.map_cons, PySem.W.alikeAll, alike_dS xs ys]
    simp [dS, PySem.W.alike]
theorem toks_ltO : ∀ xs ys : List Codes, PyProof.Rows.lexLt PyProof.Rows.itemOrd (PySem.W.keyToksAll (xs.map dS)) (PySem.W.keyToksAll (ys.map dS)) = ltO xs ys
  | [], [] => by simp [PySem.W.keyToksAll, ltO, PyProof.Rows.lexLt]; decide
  | [], y :: ys => by
    rw [List.map_cons, PySem.W.toks_all_cons]
    simp [PySem.W.keyToksAll, ltO, PyProof.Rows.lexLt]
    exact .inl (by decide)
  | x :: xs, [] => by
    rw [List.map_cons, PySem.W.toks_all_cons]
    simp [PySem.W.keyToksAll, ltO, PyProof.Rows.lexLt]
    exact ⟨by decide, fun z => absurd z (by decide)⟩
  | x :: xs, y :: ys => by
    have al : PySem.W.alike (dS x) (dS y) = true := by simp [dS, PySem.W.alike]
    rw [List.map_cons, List.map_cons]
    unfold ltO
    by_cases h : x = y
    · rw [if_pos h, PySem.W.dataLt_all_yes al (by rw [eqv_dS, decide_eq_true h]), toks_ltO xs ys]
    · rw [if_neg h, PySem.W.dataLt_all_no al (by rw [eqv_dS, decide_eq_false h])]
      unfold dS
      rw [PySem.W.dataLt_str]
      try simp [SX.S]
theorem tupLt (xs ys : List Codes) : PySem.W.dataLt (.tuple (xs.map dS)) (.tuple (ys.map dS)) = ltO xs ys := by rw [PySem.W.dataLt_tuple, toks_ltO]
theorem lstLt (xs ys : List Codes) : PySem.W.dataLt (.list (xs.map dS)) (.list (ys.map dS)) = ltO xs ys := by rw [PySem.W.dataLt_list, toks_ltO]
theorem depth_dS : ∀ xs : List Codes, PyData.depthAll (xs.map dS) = 0
  | [] => by simp [PyData.depthAll]
  | x :: xs => by
    rw [List.map_cons]
    simp [PyData.depthAll, depth_dS xs, dS, PyData.depth]
/-! a total order -/
theorem codes_tri {a b : Codes} (h : a ≠ b) : a < b ∨ b < a := by
  by_cases h1 : a < b
  · exact .inl h1
  · by_cases h2 : b < a
    · exact .inr h2
    · exact absurd (List.le_antisymm (List.not_lt.mp h2) (List.not_lt.mp h1)) h
theorem ltO_irr : ∀ a : List Codes, ltO a a = false
  | [] => rfl
  | a :: as => by unfold ltO; rw [if_pos rfl]; exact ltO_irr as
theorem ltO_tri : ∀ a b : List Codes, a ≠ b → ltO b a = !ltO a b
  | [], [], h => absurd rfl h
  | [], _ :: _, _ => rfl
  | _ :: _, [], _ => rfl
  | a :: as, b :: bs, h => by
    unfold ltO
    by_cases e : a = b
    · subst e
      rw [if_pos rfl, if_pos rfl]
      exact ltO_tri as bs fun z => h (by rw [z])
    · rw [if_neg (Ne.symm e), if_neg e]
      rcases codes_tri e with z | z
      · rw [decide_eq_true z, decide_eq_false (List.lt_asymm z)]; rfl
      · rw [decide_eq_true z, decide_eq_false (List.lt_asymm z)]; rfl
theorem ltO_trans : ∀ a b c : List Codes, ltO a b = true → ltO b c = true → ltO a c = true
  | [], [], _, h, _ => nomatch h
  | [], _ :: _, [], _, h => nomatch h
  | [], _ :: _, _ :: _, _, _ => rfl
  | _ :: _, [], _, h, _ => nomatch h
  | _ :: _, _ :: _, [], _, h => nomatch h
  | a :: as, b :: bs, c :: cs, h1, h2 => by
    unfold ltO at h1 h2 ⊢
    by_cases e1 : a = b
    · subst e1
      rw [if_pos rfl] at h1
      by_cases e2 : a = c
      · subst e2
        rw [if_pos rfl] at h2 ⊢
        exact ltO_trans as bs cs h1 h2
      · rw [if_neg e2] at h2 ⊢
        exact h2
    · rw [if_neg e1] at h1
      by_cases e2 : b = c
      · subst e2
        rw [if_neg e1]
        exact h1
      · rw [if_neg e2] at h2
        have z := List.lt_trans (of_decide_eq_true h1) (of_decide_eq_true h2)
        rw [if_neg (fun e => by subst e; exact List.lt_irrefl _ z)]
        exact decide_eq_true z
/-- one is above the other: its row begins the other's -/
def beg (p a : List Codes) : Bool := decide (a.take p.length = p)
theorem beg_nil (a : List Codes) : beg [] a = true := rfl
theorem beg_cons {x y : Codes} {p a : List Codes} : beg (x :: p) (y :: a) = (decide (y = x) && beg p a) := by
  unfold beg
  rw [List.length_cons, List.take_succ_cons]
  by_cases h1 : y = x
  · subst h1
    by_cases h2 : a.take p.length = p
    · rw [decide_eq_true h2, h2]; simp
    · rw [decide_eq_false h2]; simp [h2]
  · rw [decide_eq_false h1]; simp [h1]
theorem beg_lt : ∀ p a : List Codes, beg p a = true → a ≠ p → ltO p a = true
  | [], [], _, h => absurd rfl h
  | [], _ :: _, _, _ => rfl
  | x :: p, [], h, _ => by simp [beg] at h
  | x :: p, y :: a, h, hn => by
    rw [beg_cons, Bool.and_eq_true, decide_eq_true_eq] at h
    obtain ⟨rfl, h⟩ := h
    unfold ltO
    rw [if_pos rfl]
    exact beg_lt p a h fun z => hn (by rw [z])
theorem beg_mid : ∀ p a b c : List Codes, beg p a = true → beg p c = true → ltO a b = true → ltO b c = true → beg p b = true
  | [], _, _, _, _, _, _, _ => rfl
  | x :: p, [], _, _, h, _, _, _ => by simp [beg] at h
  | x :: p, _ :: _, _, [], _, h, _, _ => by simp [beg] at h
  | x :: p, _ :: _, [], _ :: _, _, _, h, _ => nomatch h
  | x :: p, a0 :: a, b0 :: b, c0 :: c, h1, h2, h3, h4 => by
    rw [beg_cons, Bool.and_eq_true, decide_eq_true_eq] at h1 h2
    obtain ⟨rfl, h1⟩ := h1
    obtain ⟨rfl, h2⟩ := h2
    unfold ltO at h3 h4
    have e : c0 = b0 := by
      by_cases e : c0 = b0
      · exact e
      · rw [if_neg e] at h3
        rw [if_neg (Ne.symm e)] at h4
        exact absurd (List.lt_trans (of_decide_eq_true h3) (of_decide_eq_true h4)) (List.lt_irrefl _)
    subst e
    rw [if_pos rfl] at h3 h4
    rw [beg_cons, decide_eq_true rfl, beg_mid p a b c h1 h2 h3 h4]
    rfl

end My
namespace My
open PySem PySem.Spec PyProof.Rows L2
-- plain
/-! ### names as the law draws them -/
structure gNm (ls : List (List Pair)) : Prop where
  len : ls.length ≤ 12
  pr : ∀ ps ∈ ls, goodL 60 ps
theorem gNm.ok {ls : List (List Pair)} (h : gNm ls) : okName ls := ⟨h.len, fun ps hp => (h.pr ps hp).ok (Nat.le_refl _)⟩
theorem gNm.read {ls : List (List Pair)} (h : gNm ls) : lawName (lineL ls) = some ls := by
  cases ls with
  | nil => rfl
  | cons a as => exact lawName_back h.ok (fun z => nomatch z) fun ps hp => (h.pr ps hp).ne
theorem goodP_asc {b : Nat} {q : Pair} (h : goodP b q) : asc q.1 ∧ asc q.2 := ⟨prn_asc (word_prn h.word), prn_asc h.prn⟩
theorem gNm.asc {ls : List (List Pair)} (h : gNm ls) : ∀ ps ∈ ls, ∀ q ∈ ps, asc q.1 ∧ asc q.2 := fun ps hp q hq => goodP_asc ((h.pr ps hp).pr q hq)
theorem goodL_short {ps : List Pair} (h : goodL 60 ps) : shortP 100 ps := okPair_short (by decide) (h.ok (Nat.le_refl _))
theorem goodL_short60 {ps : List Pair} (h : goodL 60 ps) : shortP 60 ps := okPair_short (by decide) (h.ok (Nat.le_refl _))
theorem gNm.lineLen {ls : List (List Pair)} (h : gNm ls) : (lineL ls).length ≤ 6828 := by
  have h1 := lineL_len (ls := ls) (k := 4) (b := 60) fun ps hp => ⟨(h.pr ps hp).len, goodL_short60 (h.pr ps hp)⟩
  have := h.len
  have h2 : ls.length * (4 * (22 + 2 * 60) + 1) ≤ 12 * (4 * (22 + 2 * 60) + 1) := Nat.mul_le_mul_right _ this
  omega
def ordL (ls : List (List Pair)) : List Codes := ls.reverse.map normLeaf
theorem ordL_len (ls : List (List Pair)) : (ordL ls).length = ls.length := by simp [ordL]
theorem gNm.tail {ls : List (List Pair)} (h : gNm ls) (n : Nat) : gNm (ls.drop n) := ⟨by rw [List.length_drop]; have := h.len; omega, fun ps hp => h.pr ps (List.mem_of_mem_drop hp)⟩
theorem gNm.cons {ps : List Pair} {ls : List (List Pair)} (h : gNm ls) (hp : goodL 60 ps) (hl : ls.length < 12) : gNm (ps :: ls) := ⟨hl, fun a ha => by
  rcases List.mem_cons.mp ha with rfl | ha
  · exact hp
  · exact h.pr a ha⟩
theorem gNm_nil : gNm [] := ⟨Nat.zero_le _, fun ps hp => nomatch hp⟩

end My
namespace My
open PySem PySem.Spec PyProof.Rows L2
-- plain
/-! ### what the reader takes is what the printer writes -/
theorem joinL_consR (m : Nat) (p : Codes) {ps : List Codes} (h : ps ≠ []) : TL.joinL [m] (p :: ps) = p ++ m :: TL.joinL [m] ps := by
  cases ps with
  | nil => exact absurd rfl h
  | cons q r => rfl
theorem sp_unjoin (m : Nat) : ∀ (n : Nat) (l acc : Codes), l.length ≤ n → TL.joinL [m] (sp m acc l) = acc ++ l := by
  intro n
  induction n with
  | zero =>
    intro l acc hn
    have : l = [] := List.eq_nil_of_length_eq_zero (Nat.le_zero.mp hn)
    subst this
    rw [List.append_nil]
    rfl
  | succ n ih =>
    intro l acc hn
    obtain ⟨p, ps, e, t, e2, e3, e4⟩ := sp_head m l acc
    rw [e, e2]
    cases ps with
    | nil =>
      rw [← e3 rfl]
      rfl
    | cons p2 ps =>
      obtain ⟨l2, e5, e6⟩ := e4 (by simp)
      rw [joinL_consR m _ (by simp), e6, e5]
      rw [ih l2 [] (by rw [e5] at hn; simp at hn; omega), List.nil_append, List.append_assoc]
theorem bareL_back {raw v : Codes} (h : bareL raw = some v) : escL v = raw := by
  unfold bareL at h
  cases e : bare1 raw with
  | none => rw [e] at h; cases h
  | some q =>
    obtain ⟨f, fl⟩ := q
    rw [e] at h
    dsimp only at h
    split at h
    · rename_i hf
      cases h
      unfold escL
      rw [escF_enc, ← hf]
      exact (bare1_enc e).1.symm
    · cases h
theorem pairL_back {p : Codes} {q : Pair} (h : pairLaw p = some q) : pairL q = p := by
  obtain ⟨w, v⟩ := q
  obtain ⟨raw, e, _, _, hb⟩ := pairLaw_form h
  unfold pairL
  rw [bareL_back hb, e, List.append_assoc]
  rfl
theorem leafL_rt : ∀ (ps : List Codes) (acc r : List Pair), leafL acc ps = some r → r.map pairL = acc.map pairL ++ ps
  | [], acc, r, h => by
    cases h
    simp
  | p :: ps, acc, r, h => by
    unfold leafL at h
    split at h
    · cases h
    · rename_i q hq
      split at h
      · cases h
      · rw [leafL_rt ps _ r h, List.map_append, List.append_assoc]
        congr 1
        rw [List.map_cons, List.map_nil, pairL_back hq]
        rfl
theorem sp_neR {m : Nat} {l acc : Codes} : sp m acc l ≠ [] := by
  obtain ⟨p, ps, e, _⟩ := sp_head m l acc
  rw [e]
  exact fun z => nomatch z
theorem lawLeaf_rt {l : Codes} {ps : List Pair} (h : lawLeaf l = some ps) : leafLine ps = l ∧ ps ≠ [] := by
  unfold lawLeaf at h
  split at h
  · cases h
  · rename_i r hr
    split at h
    · cases h
      have e := leafL_rt _ _ _ hr
      rw [List.map_nil, List.nil_append] at e
      refine ⟨?_, fun z => ?_⟩
      · unfold leafLine
        rw [e, sp_unjoin 43 l.length l [] (Nat.le_refl _), List.nil_append]
      · rw [z] at e
        exact sp_neR e.symm
    · cases h
theorem lawName_parts {l : Codes} {ls : List (List Pair)} (h : lawName l = some ls) : (l = [] ∧ ls = []) ∨ (l ≠ [] ∧ (sp 44 [] l).map lawLeaf = ls.map some) := by
  unfold lawName at h
  by_cases h0 : l = []
  · left
    refine ⟨h0, ?_⟩
    simp only [h0, if_true] at h
    split at h
    · cases h
    · cases h; rfl
  · right
    refine ⟨h0, ?_⟩
    simp only [h0, if_false] at h
    split at h
    · cases h
    · rename_i hn
      cases h
      exact somes_of fun z => hn (.inl z)
theorem map_some_mem {α β : Type} {f : α → Option β} : ∀ {xs : List α} {ys : List β}, xs.map f = ys.map some → ∀ y ∈ ys, ∃ x ∈ xs, f x = some y
  | [], [], _, y, h => nomatch h
  | [], _ :: _, e, _, _ => nomatch e
  | _ :: _, [], e, _, _ => nomatch e
  | x :: xs, y :: ys, e, z, hz => by
    rw [List.map_cons, List.map_cons, List.cons.injEq] at e
    rcases List.mem_cons.mp hz with rfl | hz
    · exact ⟨x, List.mem_cons_self, e.1⟩
    · obtain ⟨w, hw, h2⟩ := map_some_mem e.2 z hz
      exact ⟨w, List.mem_cons_of_mem _ hw, h2⟩
theorem leaves_rt : ∀ {xs : List Codes} {ls : List (List Pair)}, xs.map lawLeaf = ls.map some → ls.map leafLine = xs
  | [], [], _ => rfl
  | [], _ :: _, e => nomatch e
  | _ :: _, [], e => nomatch e
  | x :: xs, y :: ys, e => by
    rw [List.map_cons, List.map_cons, List.cons.injEq] at e
    rw [List.map_cons, (lawLeaf_rt e.1).1, leaves_rt e.2]
theorem lawName_rt {l : Codes} {ls : List (List Pair)} (h : lawName l = some ls) : lineL ls = l := by
  rcases lawName_parts h with ⟨rfl, rfl⟩ | ⟨_, e⟩
  · rfl
  · unfold lineL
    rw [leaves_rt e, sp_unjoin 44 l.length l [] (Nat.le_refl _), List.nil_append]
/-! .. and its values are printable if it is -/
theorem enc_mem : ∀ (f : Codes) (bs : List Bool), f.length = bs.length → ∀ c ∈ f, c ∈ enc f bs
  | [], _, _, _, h => nomatch h
  | x :: f, [], e, _, _ => nomatch e
  | x :: f, b :: bs, e, c, h => by
    have e' : f.length = bs.length := Nat.succ.inj e
    cases b with
    | true =>
      show c ∈ 92 :: x :: enc f bs
      rcases List.mem_cons.mp h with rfl | h
      · simp
      · exact List.mem_cons_of_mem _ (List.mem_cons_of_mem _ (enc_mem f bs e' c h))
    | false =>
      show c ∈ x :: enc f bs
      rcases List.mem_cons.mp h with rfl | h
      · simp
      · exact List.mem_cons_of_mem _ (enc_mem f bs e' c h)
theorem bareL_mem {raw v : Codes} (h : bareL raw = some v) : ∀ c ∈ v, c ∈ raw := by
  unfold bareL at h
  cases e : bare1 raw with
  | none => rw [e] at h; cases h
  | some q =>
    obtain ⟨f, fl⟩ := q
    rw [e] at h
    dsimp only at h
    split at h
    · cases h
      rw [(bare1_enc e).1]
      exact enc_mem _ fl (bare1_lens e).1
    · cases h
theorem sp_prn {m : Nat} {l p : Codes} (ha : prn l) (h : p ∈ sp m [] l) : prn p := prn_sub (fun c hc => (sp_mem m l.length l [] (Nat.le_refl _) p h c hc).resolve_left (fun z => nomatch z)) ha
theorem text_inky {v : Codes} (h : isTextL v = true) : inky v ∧ v.length ≤ 60 := by
  unfold isTextL at h
  simp only [Bool.and_eq_true, decide_eq_true_eq, Bool.not_eq_true', decide_eq_false_iff_not] at h
  obtain ⟨h1, _, h3⟩ := h
  refine ⟨?_, h1.2⟩
  apply Classical.byContradiction
  intro hn
  have hp := plain_strip v
  rw [decide_eq_false h3] at hp
  have : plainL v = [] := (plainL_nil v).mpr fun c hc => Classical.byContradiction fun z => hn ⟨c, hc, z⟩
  exact of_decide_eq_false hp this
theorem pair_good {p : Codes} {q : Pair} (ha : prn p) (h : pairLaw p = some q) : goodP 60 q := by
  obtain ⟨w, v⟩ := q
  obtain ⟨raw, e, h1, h2, hb⟩ := pairLaw_form h
  obtain ⟨hi, hl⟩ := text_inky h2
  refine ⟨h1, prn_sub (fun c hc => ?_) ha, hi, hl⟩
  rw [e]
  exact List.mem_append_right _ (List.mem_cons_of_mem _ (bareL_mem hb c hc))
theorem leafL_good : ∀ (ps : List Codes) (acc r : List Pair), (∀ p ∈ ps, prn p) → (∀ q ∈ acc, goodP 60 q) → leafL acc ps = some r → ∀ q ∈ r, goodP 60 q
  | [], acc, r, _, h, e => by
    cases e
    exact h
  | p :: ps, acc, r, hp, h, e => by
    unfold leafL at e
    split at e
    · cases e
    · rename_i q hq
      split at e
      · cases e
      · refine leafL_good ps _ r (fun x hx => hp x (List.mem_cons_of_mem _ hx)) (fun x hx => ?_) e
        rcases List.mem_append.mp hx with hx | hx
        · exact h x hx
        · rw [List.mem_singleton.mp hx]
          exact pair_good (hp p List.mem_cons_self) hq
theorem lawLeaf_good {l : Codes} {ps : List Pair} (ha : prn l) (h : lawLeaf l = some ps) : goodL 60 ps := by
  have h1 := lawLeaf_ok h
  have h2 := (lawLeaf_rt h).2
  refine ⟨h2, h1.1, ?_, h1.2.2⟩
  unfold lawLeaf at h
  split at h
  · cases h
  · rename_i r hr
    split at h
    · cases h
      exact leafL_good _ [] _ (fun p hp => sp_prn ha hp) (fun q hq => nomatch hq) hr
    · cases h
theorem lawName_gNm {l : Codes} {ls : List (List Pair)} (ha : prn l) (h : lawName l = some ls) : gNm ls := by
  refine ⟨(lawName_ok h).1.1, fun ps hp => ?_⟩
  rcases lawName_parts h with ⟨rfl, rfl⟩ | ⟨_, e⟩
  · cases hp
  · obtain ⟨x, hx, e2⟩ := map_some_mem e ps hp
    exact lawLeaf_good (sp_prn ha hx) e2

end My
namespace My
open PySem PySem.Spec PyProof.Rows L2
-- plain
/-! ### pairs in another order have one sorted row -/
theorem kyLt_ltO : ∀ a b : List Codes, kyLt a b = ltO a b
  | [], [] => rfl
  | [], _ :: _ => rfl
  | _ :: _, [] => rfl
  | a :: as, b :: bs => by
    unfold ltO
    have ih := kyLt_ltO as bs
    unfold kyLt at ih ⊢
    rw [List.map_cons, List.map_cons]
    by_cases h : a = b
    · subst h
      rw [if_pos rfl, lex_self (O := itemOrd)]
      exact ih
    · rw [if_neg h, lex_diff (O := itemOrd) (fun z => h (Sum.inr.inj z))]
      rfl
theorem pair_key {a b : Pair} (h1 : kyLt [a.1, a.2] [b.1, b.2] = false) (h2 : kyLt [b.1, b.2] [a.1, a.2] = false) : a = b := by
  rw [kyLt_ltO] at h1 h2
  by_cases h : [a.1, a.2] = [b.1, b.2]
  · simp only [List.cons.injEq, and_true] at h
    exact Prod.ext h.1 h.2
  · rw [ltO_tri _ _ h, h1] at h2
    cases h2
theorem perm_const {α : Type} {l m : List α} {a : α} (p : l.Perm m) (h : ∀ x ∈ l, x = a) : l = m := by
  rw [List.eq_replicate_iff.mpr ⟨rfl, h⟩, List.eq_replicate_iff.mpr ⟨rfl, fun x hx => h x (p.mem_iff.mpr hx)⟩, p.length_eq]
theorem sortP_of_perm {xs ys : List Pair} (p : xs.Perm ys) : sortP xs = sortP ys := by
  obtain ⟨h1, h2⟩ := sortO_ok pairO xs
  refine sortO_uniq pairO h1 ⟨h2.perm.trans p, fun a => ?_⟩
  refine (h2.cls a).trans ?_
  refine perm_const (a := a) (p.filter _) fun x hx => ?_
  have hx2 := (List.mem_filter.mp hx).2
  simp only [SrtO.eqv, Bool.and_eq_true, Bool.not_eq_true'] at hx2
  first
    | exact pair_key hx2.1 hx2.2
    | exact pair_key hx2.2 hx2.1
    | exact (pair_key hx2.1 hx2.2).symm
    | exact (pair_key hx2.2 hx2.1).symm
theorem lowLf_perm {xs ys : List Pair} (p : xs.Perm ys) : lowLf xs = lowLf ys := sortP_of_perm (p.map _)
theorem lowLf_of {xs ys : List Pair} (h : lowP xs = lowP ys) : lowLf xs = lowLf ys := by unfold lowLf; rw [h]
theorem normLeaf_low (ps : List Pair) : normLeaf ps = leafLine (lowLf ps) := rfl
theorem ordL_low {a b : List (List Pair)} (h : a.map lowLf = b.map lowLf) : ordL a = ordL b := by
  have e : ∀ ls : List (List Pair), ordL ls = ((ls.map lowLf).map leafLine).reverse := fun ls => by
    unfold ordL
    rw [List.map_map, List.map_reverse]
    rfl
  rw [e, e, h]

end My
namespace My
open PySem PySem.Spec PyProof.Rows L2
section
variable {P : Program} [hP : OkP fileS P] {w : World} {K : PySem.W.Frag} {mg : Str → Option Value} {base : Heap}
/-! ### what was walked by hand, as models -/
theorem Cal.imp {k : Nat} {x : Str} {ps : List Str} {sp sp' : Sp} (C : Cal P w K mg base k x ps sp) (h : ∀ vs H Q E, sp' vs H Q E → sp vs H Q E) : Cal P w K mg base k x ps sp' := by
  obtain ⟨f, fd, F, r⟩ := C.ex
  exact ⟨f, fd, F.imp h, r⟩
/-- all that is numbered or to be avoided stays as it is -/
def frR (A : List Addr) (M : Addr → Prop) (H : Hp) : Rel where
  M := AM A M
  J := fun _ H' => ∀ a, AM A M a → H' a = H a ∧ H a ≠ none
  alive := fun j m => by rw [(j _ m).1]; exact (j _ m).2
  loc := fun j e a m => ⟨(e a m).trans (j a m).1, (j a m).2⟩
  dec := fun j _ => j
theorem frR_ex {A : List Addr} {M : Addr → Prop} {H H' : Hp} {n : Nat} (e : (frR A M H).ok n H H') : Evl.Ex H H' := fun a o h => by
  by_cases m : AM A M a
  · rw [(e.1 a m).1]; exact h
  · exact e.2 a o m h
theorem pure_mod {α : Type} {args : α → (Addr → Prop) → List V → Hp → Prop} {post : α → SP} {m : List D → Store → Rs D}
    (h : ∀ (A : List Addr) (M : Addr → Prop) (μ : Store) (H : Hp) (vs : List V) (ds : List D) (d : D) (μ' : Store), Ok K A M μ H → RepL K A M H vs ds → m ds μ = .ok d μ' → μ' = μ ∧ ∃ a : α, args a (AM A M) vs H ∧ ∀ v H', Evl.Ex H H' → (post a).P (AM A M) v H' → RepD K A M H' v d) :
    ∀ vs H Q E, modSp K m vs H Q E → pureSp args post vs H Q E := by
  rintro vs H Q E ⟨A, M, μ, ds, d, μ', ok, r, e, q⟩
  obtain ⟨rfl, a, ha, hp⟩ := h A M μ H vs ds d μ' ok r e
  refine ⟨frR A M H, 0, a, fun b m => ⟨rfl, ok.alive m⟩, ha, fun v H' e' p => ?_⟩
  have ex := frR_ex e'
  exact q v H' A (.ex ex) (ok.ex ex) (hp v H' ex p)
def pairD (q : Pair) : D := .tup [.str q.1, .str q.2]
def leafD (ps : List Pair) : D := .tup (ps.map pairD)
def nameD : Option (List (List Pair)) → D
  | none => .non
  | some ls => .tup (ls.map leafD)
section
variable {A : List Addr} {M : Addr → Prop} {H : Hp} {v : V}
theorem pair_rep {q : Pair} (h : (pairSP K q).P (AM A M) v H) : RepD K A M H v (pairD q) := by
  obtain ⟨p, xs, e, h, rfl⟩ := h
  exact ⟨p, _, e, h, _, _, rfl, rfl, _, _, rfl, rfl, rfl⟩
theorem paired_repL {α : Type} {pe : α → SP} {f : α → D} (h : ∀ a v, (pe a).P (AM A M) v H → RepD K A M H v (f a)) : ∀ {vs : List V} {as : List α}, Paired (fun v y => (pe y).P (AM A M) v H) vs as → RepL K A M H vs (as.map f)
  | _, _, .nil => rfl
  | _, _, .cons a b => ⟨_, _, rfl, h _ _ a, paired_repL h b⟩
theorem leaf_rep {ps : List Pair} (h : (leafSP K ps).P (AM A M) v H) : RepD K A M H v (leafD ps) := by
  obtain ⟨p, xs, e, h, g⟩ := h
  exact ⟨p, xs, e, h, paired_repL (fun _ _ => pair_rep) g⟩
theorem name_rep {o : Option (List (List Pair))} (h : (nameO K o).P (AM A M) v H) : RepD K A M H v (nameD o) := by
  cases o with
  | none => exact h
  | some ls =>
    obtain ⟨p, xs, e, h, g⟩ := h
    exact ⟨p, xs, e, h, paired_repL (fun _ _ => leaf_rep) g⟩
end
/-! a def of one text -/
def mTxt (c : Codes → Bool) (f : Codes → D) : List D → Store → Rs D := fun ds μ => match ds with
  | [.str l] => if c l = true then .ok (f l) μ else .no
  | _ => .no
theorem mTxt_eq {c : Codes → Bool} {f : Codes → D} {l : Codes} {μ : Store} (h : c l = true) : mTxt c f [.str l] μ = .ok (f l) μ := if_pos h
theorem mTxt_ok {c : Codes → Bool} {f : Codes → D} {ds : List D} {μ μ' : Store} {d : D} {A : List Addr} {M : Addr → Prop} {H : Hp} {vs : List V} (r : RepL K A M H vs ds) (e : mTxt c f ds μ = .ok d μ') : μ' = μ ∧ ∃ l, vs = [sv l] ∧ c l = true ∧ d = f l := by
  unfold mTxt at e
  split at e
  · split at e
    · rename_i l h
      cases e
      obtain ⟨v, r', rfl, h1, rfl⟩ := r
      cases h1
      exact ⟨rfl, l, rfl, h, rfl⟩
    · cases e
  · cases e
def okT (l : Codes) : Bool := l.all (· < 128) && decide (l.length ≤ 20000)
theorem okT_iff {l : Codes} : okT l = true ↔ asc l ∧ l.length ≤ 20000 := by
  unfold okT
  rw [Bool.and_eq_true, decide_eq_true_eq]
  rfl
def m_plain_text : List D → Store → Rs D := mTxt okT fun l => .str (plainL l)
theorem c_plain_text (T : Tx K mg) : Cal P w K mg base 1 "plain_text" ["value"] (modSp K m_plain_text) := (c0_plain_text T).imp (pure_mod fun A M μ H vs ds d μ' ok r e => by
  obtain ⟨e1, l, rfl, h, rfl⟩ := mTxt_ok r e
  exact ⟨e1, l, ⟨rfl, okT_iff.mp h⟩, fun v H' _ hv => hv⟩)
def m_escaped : List D → Store → Rs D := mTxt (fun l => decide (l.length ≤ 20000)) fun l => .str (escL l)
theorem c_escaped (T : Tx K mg) : Cal P w K mg base 1 "escaped" ["value"] (modSp K m_escaped) := (c0_escaped T).imp (pure_mod fun A M μ H vs ds d μ' ok r e => by
  obtain ⟨e1, l, rfl, h, rfl⟩ := mTxt_ok r e
  exact ⟨e1, l, ⟨rfl, of_decide_eq_true h⟩, fun v H' _ hv => hv⟩)
def m_read_name : List D → Store → Rs D := mTxt okT fun l => nameD (lawName l)
theorem c_read_name (T : Tx K mg) : Cal P w K mg base 3 "read_name" ["text"] (modSp K m_read_name) := (c0_read_name T).imp (pure_mod fun A M μ H vs ds d μ' ok r e => by
  obtain ⟨e1, l, rfl, h, rfl⟩ := mTxt_ok r e
  exact ⟨e1, some l, ⟨_, rfl, rfl, okT_iff.mp h⟩, fun v H' _ hv => name_rep hv⟩)

end
end My
namespace My
open PySem PySem.Spec PyProof.Rows L2
section
variable {P : Program} [hP : OkP fileS P] {w : World} {K : PySem.W.Frag} {mg : Str → Option Value} {base : Heap}
def m_l_escaped : List D → Store → Rs D := mTxt (fun l => decide (l.length ≤ 20000)) fun l => .str (escL l)
theorem c_l_escaped (T : Tx K mg) : Cal P w K mg base 1 "_law_escaped" ["_law_thing"] (modSp K m_l_escaped) := (c0_l_escaped T).imp (pure_mod fun A M μ H vs ds d μ' ok r e => by
  obtain ⟨e1, l, rfl, h, rfl⟩ := mTxt_ok r e
  exact ⟨e1, l, ⟨rfl, of_decide_eq_true h⟩, fun v H' _ hv => hv⟩)

end
end My
namespace My
open PySem PySem.Spec PyProof.Rows L2
section
variable {P : Program} [hP : OkP fileS P] {w : World} {K : PySem.W.Frag} {mg : Str → Option Value} {base : Heap}
/-! ### the law's reading, walked by hand, as models -/
def llfD (ps : List Pair) : D := .lst (ps.map pairD)
def lnmD : Option (List (List Pair)) → D
  | none => .non
  | some ls => .lst (ls.map llfD)
section
variable {A : List Addr} {M : Addr → Prop} {H : Hp} {v : V}
theorem llf_rep {ps : List Pair} (h : (lstP (pairSP K) ps).P (AM A M) v H) : RepD K A M H v (llfD ps) := by
  obtain ⟨p, xs, e, h, g⟩ := h
  exact ⟨p, xs, e, h, paired_repL (fun _ _ => pair_rep) g⟩
end

end
end My
namespace My
open PySem PySem.Spec PyProof.Rows L2
section
variable {P : Program} [hP : OkP fileS P] {w : World} {K : PySem.W.Frag} {mg : Str → Option Value} {base : Heap}
section
variable {A : List Addr} {M : Addr → Prop} {H : Hp} {v : V}
theorem lnm_rep {o : Option (List (List Pair))} (h : (nameLO K o).P (AM A M) v H) : RepD K A M H v (lnmD o) := by
  cases o with
  | none => exact h
  | some ls =>
    obtain ⟨p, xs, e, h, g⟩ := h
    exact ⟨p, xs, e, h, paired_repL (fun _ _ => llf_rep) g⟩
end
def m_l_name : List D → Store → Rs D := mTxt okT fun l => lnmD (lawName l)
theorem c_l_name (T : Tx K mg) : Cal P w K mg base 3 "_law_name" ["_law_line_here"] (modSp K m_l_name) := (c0_l_name T).imp (pure_mod fun A M μ H vs ds d μ' ok r e => by
  obtain ⟨e1, l, rfl, h, rfl⟩ := mTxt_ok r e
  exact ⟨e1, l, ⟨rfl, okT_iff.mp h⟩, fun v H' _ hv => lnm_rep hv⟩)

end
end My
namespace My
open PySem PySem.Spec PyProof.Rows L2
section
variable {P : Program} [hP : OkP fileS P] {w : World} {K : PySem.W.Frag} {mg : Str → Option Value} {base : Heap}
def m_l_low : List D → Store → Rs D := mTxt okT fun l => .str (plainL l)
theorem c_l_low (T : Tx K mg) : Cal P w K mg base 1 "_law_low" ["_law_thing"] (modSp K m_l_low) := (c0_l_low T).imp (pure_mod fun A M μ H vs ds d μ' ok r e => by
  obtain ⟨e1, l, rfl, h, rfl⟩ := mTxt_ok r e
  exact ⟨e1, l, ⟨rfl, okT_iff.mp h⟩, fun v H' _ hv => hv⟩)

end
end My
namespace My
open PySem PySem.Spec PyProof.Rows L2
section
variable {P : Program} [hP : OkP fileS P] {w : World} {K : PySem.W.Frag} {mg : Str → Option Value} {base : Heap}
/-! ### leaf_text -/
-- slots: 0 pairs, 1 word, 2 value
abbrev N_leaf_text : List Str := ["pairs", "word", "value"]
theorem sc_leaf_text : FnScope N_leaf_text ["pairs"] (defScope s_leaf_text) := ⟨rfl, rfl, rfl, by decide +kernel, rfl, by decide +kernel, by decide +kernel⟩
def le_leaf_text_1 : Mo D := (mOp dAdd (mOp dAdd (mVar 1) (mC (D.str [61]))) (mCall m_escaped (mCons (mVar 2) mNil)))
def b_leaf_text : MS := (sRet (mBm dJoin (mC (D.str [43])) (mCons (mFz (mLc (mIter (mVar 0)) (tgT 2 (tgCons (tgName 1) (tgCons (tgName 2) tgNil))) (mC true) le_leaf_text_1 [1, 2])) mNil)))
def m_leaf_text : List D → Store → Rs D := fnK 1 2 b_leaf_text
theorem c_leaf_text (T : Tx K mg) : Cal P w K mg base 2 "leaf_text" ["pairs"] (modSp K m_leaf_text) := by
  have C_escaped := c_escaped (P := P) (w := w) (base := base) T
  refine cal_K (body := b_leaf_text) (nl := 2) T.d_leaf_text sc_leaf_text rfl (fun _ _ _ _ _ _ us hl => match us, hl with | [_], _ => rfl) (fun f cdv A outer s H E hr => ⟨_, (pss_one (ps_ret (pe_bmK (K := K) PySem.F.plainAttrs_str PySem.F.slot_str_join PySem.F.type_str_join (mt_joinA (K := K)) pe_str (pa_cons (pe_lc (own := [("word", 1), ("value", 2)]) (by rfl) sc_leaf_text.nd (pi_any (K := K) (pv 0)) (blkOk_by (own := [("word", 1), ("value", 2)]) (N := N_leaf_text) (sc := defScope s_leaf_text) (by decide +kernel)) (fun _ _ _ _ _ => (pg_tupK (K := K) (n := 2) rfl (pgs_cons (pg_name (i := 1) sc_leaf_text.nd rfl (by first | exact Or.inl rfl | exact Or.inr rfl)) (pgs_cons (pg_name (i := 2) sc_leaf_text.nd rfl (by first | exact Or.inl rfl | exact Or.inr rfl)) pgs_nil)))) (fun _ _ _ _ _ => pts_nil) (fun _ _ _ _ _ => (pe_op (op_Add (K := K)) (pe_op (op_Add (K := K)) (pv 1) pe_str) (pe_callC C_escaped (hr.mono (by decide)) (by rfl) (pa_cons (pv 2) pa_nil))))) pa_nil)))), ?_⟩)
  exact (t_ret (d_bm md_join (d_str [43] (by decide +kernel)) (s_cons (d_fz (c_lc (vs := [1, 2]) (i_any (d_var 0)) (g_tup (g_cons (g_name 1) (g_cons (g_name 2) g_nil))) (by decide) b_yes (d_op od_add (d_op od_add (d_var 1) (d_str [61] (by decide +kernel))) (d_call (s_cons (d_var 2) s_nil))))) s_nil)))
/-! ### normal_leaf -/
-- slots: 0 pairs, 1 word, 2 value
abbrev N_normal_leaf : List Str := ["pairs", "word", "value"]
theorem sc_normal_leaf : FnScope N_normal_leaf ["pairs"] (defScope s_normal_leaf) := ⟨rfl, rfl, rfl, by decide +kernel, rfl, by decide +kernel, by decide +kernel⟩
def le_normal_leaf_1 : Mo D := (mTup (mCons (mVar 1) (mCons (mCall m_plain_text (mCons (mVar 2) mNil)) mNil)))
def b_normal_leaf : MS := (sRet (mCall m_leaf_text (mCons (mFz (mCc lSorted (mCons (mFz (mLc (mIter (mVar 0)) (tgT 2 (tgCons (tgName 1) (tgCons (tgName 2) tgNil))) (mC true) le_normal_leaf_1 [1, 2])) mNil))) mNil)))
def m_normal_leaf : List D → Store → Rs D := fnK 1 2 b_normal_leaf
theorem c_normal_leaf (T : Tx K mg) : Cal P w K mg base 3 "normal_leaf" ["pairs"] (modSp K m_normal_leaf) := by
  have C_leaf_text := c_leaf_text (P := P) (w := w) (base := base) T
  have C_plain_text := c_plain_text (P := P) (w := w) (base := base) T
  refine cal_K (body := b_normal_leaf) (nl := 2) T.d_normal_leaf sc_normal_leaf rfl (fun _ _ _ _ _ _ us hl => match us, hl with | [_], _ => rfl) (fun f cdv A outer s H E hr => ⟨_, (pss_one (ps_ret (pe_callC C_leaf_text (hr.mono (by decide)) (by rfl) (pa_cons (pe_callB (cr_sortedA (K := K)) (by rfl) T.b_sorted (by decide +kernel) (pa_cons (pe_lc (own := [("word", 1), ("value", 2)]) (by rfl) sc_normal_leaf.nd (pi_any (K := K) (pv 0)) (blkOk_by (own := [("word", 1), ("value", 2)]) (N := N_normal_leaf) (sc := defScope s_normal_leaf) (by decide +kernel)) (fun _ _ _ _ _ => (pg_tupK (K := K) (n := 2) rfl (pgs_cons (pg_name (i := 1) sc_normal_leaf.nd rfl (by first | exact Or.inl rfl | exact Or.inr rfl)) (pgs_cons (pg_name (i := 2) sc_normal_leaf.nd rfl (by first | exact Or.inl rfl | exact Or.inr rfl)) pgs_nil)))) (fun _ _ _ _ _ => pts_nil) (fun _ _ _ _ _ => (pe_tup (pa_cons (pv 1) (pa_cons (pe_callC C_plain_text (hr.mono (by decide)) (by rfl) (pa_cons (pv 2) pa_nil)) pa_nil))))) pa_nil)) pa_nil)))), ?_⟩)
  exact (t_ret (d_call (s_cons (d_fz (c_cb cc_sorted (s_cons (d_fz (c_lc (vs := [1, 2]) (i_any (d_var 0)) (g_tup (g_cons (g_name 1) (g_cons (g_name 2) g_nil))) (by decide) b_yes (d_tup (s_cons (d_var 1) (s_cons (d_call (s_cons (d_var 2) s_nil)) s_nil))))) s_nil))) s_nil)))
/-! ### name_text -/
-- slots: 0 leaves, 1 pairs
abbrev N_name_text : List Str := ["leaves", "pairs"]
theorem sc_name_text : FnScope N_name_text ["leaves"] (defScope s_name_text) := ⟨rfl, rfl, rfl, by decide +kernel, rfl, by decide +kernel, by decide +kernel⟩
def le_name_text_1 : Mo D := (mCall m_leaf_text (mCons (mVar 1) mNil))
def b_name_text : MS := (sRet (mBm dJoin (mC (D.str [44])) (mCons (mFz (mLc (mIter (mVar 0)) (tgName 1) (mC true) le_name_text_1 [1])) mNil)))
def m_name_text : List D → Store → Rs D := fnK 1 1 b_name_text
theorem c_name_text (T : Tx K mg) : Cal P w K mg base 3 "name_text" ["leaves"] (modSp K m_name_text) := by
  have C_leaf_text := c_leaf_text (P := P) (w := w) (base := base) T
  refine cal_K (body := b_name_text) (nl := 1) T.d_name_text sc_name_text rfl (fun _ _ _ _ _ _ us hl => match us, hl with | [_], _ => rfl) (fun f cdv A outer s H E hr => ⟨_, (pss_one (ps_ret (pe_bmK (K := K) PySem.F.plainAttrs_str PySem.F.slot_str_join PySem.F.type_str_join (mt_joinA (K := K)) pe_str (pa_cons (pe_lc (own := [("pairs", 1)]) (by rfl) sc_name_text.nd (pi_any (K := K) (pv 0)) (blkOk_by (own := [("pairs", 1)]) (N := N_name_text) (sc := defScope s_name_text) (by decide +kernel)) (fun _ _ _ _ _ => (pg_name (i := 1) sc_name_text.nd rfl (by first | exact Or.inl rfl | exact Or.inr rfl))) (fun _ _ _ _ _ => pts_nil) (fun _ _ _ _ _ => (pe_callC C_leaf_text (hr.mono (by decide)) (by rfl) (pa_cons (pv 1) pa_nil)))) pa_nil)))), ?_⟩)
  exact (t_ret (d_bm md_join (d_str [44] (by decide +kernel)) (s_cons (d_fz (c_lc (vs := [1]) (i_any (d_var 0)) (g_name 1) (by decide) b_yes (d_call (s_cons (d_var 1) s_nil)))) s_nil)))
/-! ### order_of -/
-- slots: 0 leaves, 1 pairs
abbrev N_order_of : List Str := ["leaves", "pairs"]
theorem sc_order_of : FnScope N_order_of ["leaves"] (defScope s_order_of) := ⟨rfl, rfl, rfl, by decide +kernel, rfl, by decide +kernel, by decide +kernel⟩
def le_order_of_1 : Mo D := (mCall m_normal_leaf (mCons (mVar 1) mNil))
def b_order_of : MS := (sRet (mCb dTuple (mCons (mFz (mLc (mIter (mRev (mVar 0))) (tgName 1) (mC true) le_order_of_1 [1])) mNil)))
def m_order_of : List D → Store → Rs D := fnK 1 1 b_order_of
theorem c_order_of (T : Tx K mg) : Cal P w K mg base 4 "order_of" ["leaves"] (modSp K m_order_of) := by
  have C_normal_leaf := c_normal_leaf (P := P) (w := w) (base := base) T
  refine cal_K (body := b_order_of) (nl := 1) T.d_order_of sc_order_of rfl (fun _ _ _ _ _ _ us hl => match us, hl with | [_], _ => rfl) (fun f cdv A outer s H E hr => ⟨_, (pss_one (ps_ret (pe_callTy (call_tupleA (K := K)) (by rfl) T.b_tuple (by decide +kernel) (pa_cons (pe_lc (own := [("pairs", 1)]) (by rfl) sc_order_of.nd (pi_any (K := K) (pe_rev (K := K) (pv 0))) (blkOk_by (own := [("pairs", 1)]) (N := N_order_of) (sc := defScope s_order_of) (by decide +kernel)) (fun _ _ _ _ _ => (pg_name (i := 1) sc_order_of.nd rfl (by first | exact Or.inl rfl | exact Or.inr rfl))) (fun _ _ _ _ _ => pts_nil) (fun _ _ _ _ _ => (pe_callC C_normal_leaf (hr.mono (by decide)) (by rfl) (pa_cons (pv 1) pa_nil)))) pa_nil)))), ?_⟩)
  exact (t_ret (d_cb cd_tuple (s_cons (d_fz (c_lc (vs := [1]) (i_any (d_rev (d_var 0))) (g_name 1) (by decide) b_yes (d_call (s_cons (d_var 1) s_nil)))) s_nil)))
/-! ### Name.__init__ -/
-- slots: 0 self, 1 text, 2 leaves
abbrev N_Name___init : List Str := ["self", "text", "leaves"]
theorem sc_Name___init : FnScope N_Name___init ["self", "text"] (defScope s_Name___init) := ⟨rfl, rfl, rfl, by decide +kernel, rfl, by decide +kernel, by decide +kernel⟩
def b_Name___init : MS := (sSeq (sAsg (mCall m_read_name (mCons (mVar 1) mNil)) (tgName 2))
    (sSeq (sIf (mTest (mOp dIs (mVar 2) (mC D.non))) (sRaise "BadName" ["given"] (mCons (mVar 1) mNil)) sNext)
    (sSeq (sSetF ctab "own_text" (mVar 1) (mVar 0))
    (sSeq (sSetF ctab "own_leaves" (mVar 2) (mVar 0))
    (sSetF ctab "own_order" (mCall m_order_of (mCons (mVar 2) mNil)) (mVar 0))))))
def m_Name___init : List D → Store → Rs D := fnKX 2 1 b_Name___init
theorem c_Name___init (T : Tx K mg) : CalF P w K mg base (L2.CX P w) 5 (He.ma K (He.ga K "Name") "__init__") "__init__" "Name.__init__" s_Name___init [V.str ""] [] ["self", "text"] (modSpX K m_Name___init) := by
  have C_read_name := c_read_name (P := P) (w := w) (base := base) T
  have C_order_of := c_order_of (P := P) (w := w) (base := base) T
  refine calF_KX (body := b_Name___init) (nl := 1) T.d_Name___init sc_Name___init rfl (fun cdv A outer s H E hr => ⟨_, (pss_cons (ps_set (i := 2) sc_Name___init.nd rfl (by first | exact Or.inl rfl | exact Or.inr rfl) (pe_callC C_read_name (hr.mono (by decide)) (by rfl) (pa_cons (pv 1) pa_nil)))
      (pss_cons (ps_if (pt_cmpR cm_Is (pv 2) pe_non (nomark _)) (pss_one (L2.ps_raise rfl (L2.takes_of rfl rfl rfl rfl) (pmk_err hP T.er_BadName T.k_BadName T.b_super hr (by decide) (pa_cons (pv 1) pa_nil) (by rfl)))) pss_nil)
      (pss_cons (ps_fld (pv 0) (pv 1) (by rfl))
      (pss_cons (ps_fld (pv 0) (pv 2) (by rfl))
      (pss_one (ps_fld (pv 0) (pe_callC C_order_of (hr.mono (by decide)) (by rfl) (pa_cons (pv 2) pa_nil)) (by rfl))))))), ?_⟩)
  exact (t_seq (t_asg (d_call (s_cons (d_var 1) s_nil)) (g_name 2))
      (t_seq (t_if (b_test (d_op od_is (d_var 2) d_non)) (t_raise (s_cons (d_var 1) s_nil)) t_next)
      (t_seq (t_setF T.G (d_var 1) (d_var 0))
      (t_seq (t_setF T.G (d_var 2) (d_var 0))
      (t_setF T.G (d_call (s_cons (d_var 2) s_nil)) (d_var 0))))))
/-! ### Name.text -/
-- slots: 0 self
abbrev N_Name_text : List Str := ["self"]
theorem sc_Name_text : FnScope N_Name_text ["self"] (defScope s_Name_text) := ⟨rfl, rfl, rfl, by decide +kernel, rfl, by decide +kernel, by decide +kernel⟩
def b_Name_text : MS := (sRet (mFld ctab "own_text" (mVar 0)))
def m_Name_text : List D → Store → Rs D := fnK 1 0 b_Name_text
theorem c_Name_text (T : Tx K mg) : CalF P w K mg base CX0 1 (gp K "Name" "text") "text" "Name.text" s_Name_text [] [] ["self"] (modSp K m_Name_text) := by
  refine calF_K (body := b_Name_text) (nl := 0) T.d_Name_text sc_Name_text rfl (fun cdv A outer s H E hr => ⟨_, (pss_one (ps_ret (pe_fldK (K := K) (pv 0)))), ?_⟩)
  exact (t_ret (d_fld T.G (d_var 0)))
/-! ### Name.normal -/
-- slots: 0 self
abbrev N_Name_normal : List Str := ["self"]
theorem sc_Name_normal : FnScope N_Name_normal ["self"] (defScope s_Name_normal) := ⟨rfl, rfl, rfl, by decide +kernel, rfl, by decide +kernel, by decide +kernel⟩
def b_Name_normal : MS := (sRet (mBm dJoin (mC (D.str [44])) (mCons (mRev (mFld ctab "own_order" (mVar 0))) mNil)))
def m_Name_normal : List D → Store → Rs D := fnK 1 0 b_Name_normal
theorem c_Name_normal (T : Tx K mg) : CalF P w K mg base CX0 1 (gp K "Name" "normal") "normal" "Name.normal" s_Name_normal [] [] ["self"] (modSp K m_Name_normal) := by
  refine calF_K (body := b_Name_normal) (nl := 0) T.d_Name_normal sc_Name_normal rfl (fun cdv A outer s H E hr => ⟨_, (pss_one (ps_ret (pe_bmK (K := K) PySem.F.plainAttrs_str PySem.F.slot_str_join PySem.F.type_str_join (mt_joinA (K := K)) pe_str (pa_cons (pe_rev (K := K) (pe_fldK (K := K) (pv 0))) pa_nil)))), ?_⟩)
  exact (t_ret (d_bm md_join (d_str [44] (by decide +kernel)) (s_cons (d_rev (d_fld T.G (d_var 0))) s_nil)))
/-! ### Name.depth -/
-- slots: 0 self
abbrev N_Name_depth : List Str := ["self"]
theorem sc_Name_depth : FnScope N_Name_depth ["self"] (defScope s_Name_depth) := ⟨rfl, rfl, rfl, by decide +kernel, rfl, by decide +kernel, by decide +kernel⟩
def b_Name_depth : MS := (sRet (mCb dLen (mCons (mFld ctab "own_leaves" (mVar 0)) mNil)))
def m_Name_depth : List D → Store → Rs D := fnK 1 0 b_Name_depth
theorem c_Name_depth (T : Tx K mg) : CalF P w K mg base CX0 1 (gp K "Name" "depth") "depth" "Name.depth" s_Name_depth [] [] ["self"] (modSp K m_Name_depth) := by
  refine calF_K (body := b_Name_depth) (nl := 0) T.d_Name_depth sc_Name_depth rfl (fun cdv A outer s H E hr => ⟨_, (pss_one (ps_ret (pe_callB (call_lenA (K := K)) (by rfl) T.b_len (by decide +kernel) (pa_cons (pe_fldK (K := K) (pv 0)) pa_nil)))), ?_⟩)
  exact (t_ret (d_cb cd_len (s_cons (d_fld T.G (d_var 0)) s_nil)))
/-! ### Name.pairs -/
-- slots: 0 self
abbrev N_Name_pairs : List Str := ["self"]
theorem sc_Name_pairs : FnScope N_Name_pairs ["self"] (defScope s_Name_pairs) := ⟨rfl, rfl, rfl, by decide +kernel, rfl, by decide +kernel, by decide +kernel⟩
def b_Name_pairs : MS := (sRet (mIf (mTest (mOp dNe (mFld ctab "own_leaves" (mVar 0)) (mTup mNil))) (mOp dIx (mFld ctab "own_leaves" (mVar 0)) (mC (D.int 0))) (mTup mNil)))
def m_Name_pairs : List D → Store → Rs D := fnK 1 0 b_Name_pairs
theorem c_Name_pairs (T : Tx K mg) : CalF P w K mg base CX0 1 (gp K "Name" "pairs") "pairs" "Name.pairs" s_Name_pairs [] [] ["self"] (modSp K m_Name_pairs) := by
  refine calF_K (body := b_Name_pairs) (nl := 0) T.d_Name_pairs sc_Name_pairs rfl (fun cdv A outer s H E hr => ⟨_, (pss_one (ps_ret (pe_ifExp (pt_cmpR (cm_NotEq (K := K) hr.units) (pe_fldK (K := K) (pv 0)) (pe_tup pa_nil) (nomark _)) (pe_ix (ix_any (K := K)) (pe_fldK (K := K) (pv 0)) pe_int (fun _ _ => rfl)) (pe_tup pa_nil)))), ?_⟩)
  exact (t_ret (d_if (b_test (d_op od_ne (d_fld T.G (d_var 0)) (d_tup s_nil))) (d_op od_ix (d_fld T.G (d_var 0)) d_int) (d_tup s_nil)))
/-! ### Name.parent -/
-- slots: 0 self
abbrev N_Name_parent : List Str := ["self"]
theorem sc_Name_parent : FnScope N_Name_parent ["self"] (defScope s_Name_parent) := ⟨rfl, rfl, rfl, by decide +kernel, rfl, by decide +kernel, by decide +kernel⟩
def b_Name_parent : MS := (sRet (mMakeP false "Name" m_Name___init 1 0 [0, 1] [D.str []] (mC (D.cls "Name")) (mCons (mCall m_name_text (mCons (mSl dSlV (mFld ctab "own_leaves" (mVar 0)) (mPart (mC (D.int 1))) mNoP) mNil)) mNil) mNil))
def m_Name_parent : List D → Store → Rs D := fnK 1 0 b_Name_parent
theorem c_Name_parent (T : Tx K mg) : CalF P w K mg base CX0 7 (gp K "Name" "parent") "parent" "Name.parent" s_Name_parent [] [] ["self"] (modSp K m_Name_parent) := by
  have C_Name___init := c_Name___init (P := P) (w := w) (base := base) T
  have C_name_text := c_name_text (P := P) (w := w) (base := base) T
  refine calF_K (body := b_Name_parent) (nl := 0) T.d_Name_parent sc_Name_parent rfl (fun cdv A outer s H E hr => ⟨_, (pss_one (ps_ret (pe_makeP (E := fun _ => E0) T.mk_Name C_Name___init (hr.mono (by decide)) (bs_D (n := 2) (ks := []) (js := [0, 1]) (fun z => nomatch z) (fun T _ _ _ _ _ _ us its ws h1 h2 h3 => match us, its, ws, h1, h2, h3 with | [_, _], [_], [], _, _, _ => ⟨_, rfl, rfl⟩)) passX0 (pe_globR (by rfl) T.k_Name) (pa_cons (pe_callC C_name_text (hr.mono (by decide)) (by rfl) (pa_cons (pe_slice (sl_all (K := K)) (pe_fldK (K := K) (pv 0)) (po_some pe_int) po_none) pa_nil)) pa_nil) pk_nil))), ?_⟩)
  exact (t_ret (d_makeY (fun A M H => show RepL K A M H [V.str ""] [D.str []] from ⟨_, _, rfl, congrArg V.str (by decide +kernel), rfl⟩) d_cls (s_cons (d_call (s_cons (d_sl sd_all (d_fld T.G (d_var 0)) (o_some d_int) o_none) s_nil)) s_nil) s_nil))
/-! ### Name.__eq__ -/
-- slots: 0 self, 1 other
abbrev N_Name___eq : List Str := ["self", "other"]
theorem sc_Name___eq : FnScope N_Name___eq ["self", "other"] (defScope s_Name___eq) := ⟨rfl, rfl, rfl, by decide +kernel, rfl, by decide +kernel, by decide +kernel⟩
def b_Name___eq : MS := (sRet (mAndV (mCb (dIsiC ctab) (mCons (mVar 1) (mCons (mC (D.cls "Name")) mNil))) (mOp dEq (mFld ctab "own_order" (mVar 0)) (mFld ctab "own_order" (mVar 1)))))
def m_Name___eq : List D → Store → Rs D := fnK 2 0 b_Name___eq
theorem c_Name___eq (T : Tx K mg) : CalF P w K mg base CX0 1 (He.ma K (He.ga K "Name") "__eq__") "__eq__" "Name.__eq__" s_Name___eq [] [] ["self", "other"] (modSp K m_Name___eq) := by
  refine calF_K (body := b_Name___eq) (nl := 0) T.d_Name___eq sc_Name___eq rfl (fun cdv A outer s H E hr => ⟨_, (pss_one (ps_ret (pe_and (pe_callB (call_isiA (K := K)) (by rfl) T.b_isinstance (by decide +kernel) (pa_cons (pv 1) (pa_cons (pe_globR (by rfl) T.k_Name) pa_nil))) (pe_one (pe_cmpR (cm_Eq (K := K) hr.units) (pe_fldK (K := K) (pv 0)) (pe_fldK (K := K) (pv 1)) (nomark _)))))), ?_⟩)
  exact (t_ret (d_andV (d_cb (cd_isiC T.G) (s_cons (d_var 1) (s_cons d_cls s_nil))) (d_op od_eq (d_fld T.G (d_var 0)) (d_fld T.G (d_var 1)))))
def eqTab : OTab := [("Name", m_Name___eq)]
theorem f_eq (T : Tx K mg) : ∀ p ∈ ownL K "__eq__" eqTab, FnR P w K mg base CX0 1 p.1 p.2 := by
  intro p hp
  simp only [ownL, eqTab, List.map_cons, List.map_nil, List.mem_cons, List.not_mem_nil, or_false] at hp
  subst hp
  exact CalF.raw2 (c_Name___eq (P := P) (w := w) (base := base) T) (bs_0 (n := 2) (ks := []) (js := [0, 1]) (fun _ _ _ _ _ _ us ws h1 h2 => match us, ws, h1, h2 with | [_, _], [], _, _ => rfl))
theorem o_eq (T : Tx K mg) : OwnOk K "__eq__" eqTab := by
  intro p hp
  simp only [eqTab, List.mem_cons, List.not_mem_nil, or_false] at hp
  subst hp
  exact T.mt_Name___eq _ (by simp)

end
end My
namespace My
open PySem PySem.Spec PyProof.Rows L2
section
variable {P : Program} [hP : OkP fileS P] {w : World} {K : PySem.W.Frag} {mg : Str → Option Value} {base : Heap}
/-! ### _law_source -/
-- slots: 0 _law_script, 1 _law_k, 2 _law_cell
abbrev N_l_source : List Str := ["_law_script", "_law_k", "_law_cell"]
theorem sc_l_source : FnScope N_l_source ["_law_script", "_law_k"] (defScope s_l_source) := ⟨rfl, rfl, rfl, by decide +kernel, rfl, by decide +kernel, by decide +kernel⟩
def b_l_source : MS := (sSeq (sAsg (mIf (mTest (mOp dNe (mVar 0) (mFz (mLst mNil)))) (mOp dIx (mVar 0) (mOp dMod (mCb dInt (mCons (mVar 1) mNil)) (mCb dLen (mCons (mVar 0) mNil)))) (mC (D.int 1))) (tgName 2))
    (sRet (mCell (mLst (mCons (mCb dInt (mCons (mVar 2) mNil)) (mCons (mOp dMul (mC (D.int 3)) (mVar 1)) (mCons (mIf (mTest (mOp dGe (mVar 2) (mOp dPow (mC (D.int 10)) (mC (D.int 18))))) (mOp dDiv (mCb dInt (mCons (mVar 2) mNil)) (mOp dPow (mC (D.int 10)) (mC (D.int 18)))) (mC (D.int 0))) mNil)))))))
def m_l_source : List D → Store → Rs D := fnK 2 1 b_l_source
theorem c_l_source (T : Tx K mg) : Cal P w K mg base 1 "_law_source" ["_law_script", "_law_k"] (modSp K m_l_source) := by
  refine cal_K (body := b_l_source) (nl := 1) T.d_l_source sc_l_source rfl (fun _ _ _ _ _ _ us hl => match us, hl with | [_, _], _ => rfl) (fun f cdv A outer s H E hr => ⟨_, (pss_cons (ps_set (i := 2) sc_l_source.nd rfl (by first | exact Or.inl rfl | exact Or.inr rfl) (pe_ifExp (pt_cmpR (cm_NotEq (K := K) hr.units) (pv 0) (pe_lst pa_nil) (nomark _)) (pe_ix (ix_any (K := K)) (pv 0) (pe_op op_mod (pe_callTy call_intA (by rfl) T.b_int (by decide +kernel) (pa_cons (pv 1) pa_nil)) (pe_callB (call_lenA (K := K)) (by rfl) T.b_len (by decide +kernel) (pa_cons (pv 0) pa_nil))) (fun _ _ => rfl)) pe_int))
      (pss_one (ps_ret (pe_lst (pa_cons (pe_callTy call_intA (by rfl) T.b_int (by decide +kernel) (pa_cons (pv 2) pa_nil)) (pa_cons (pe_op op_Mult pe_int (pv 1)) (pa_cons (pe_ifExp (pt_cmpR cm_GtE (pv 2) (pe_op op_pow pe_int pe_int) (nomark _)) (pe_op op_FloorDiv (pe_callTy call_intA (by rfl) T.b_int (by decide +kernel) (pa_cons (pv 2) pa_nil)) (pe_op op_pow pe_int pe_int)) pe_int) pa_nil))))))), ?_⟩)
  exact (t_seq (t_asg (d_if (b_test (d_op od_ne (d_var 0) (d_fz (c_lst s_nil)))) (d_op od_ix (d_var 0) (d_op od_mod (d_cb cd_int (s_cons (d_var 1) s_nil)) (d_cb cd_len (s_cons (d_var 0) s_nil)))) d_int) (g_name 2))
      (t_ret (d_cell (c_lst (s_cons (d_cb cd_int (s_cons (d_var 2) s_nil)) (s_cons (d_op od_mul d_int (d_var 1)) (s_cons (d_if (b_test (d_op od_ge (d_var 2) (d_op od_pow d_int d_int))) (d_op od_div (d_cb cd_int (s_cons (d_var 2) s_nil)) (d_op od_pow d_int d_int)) d_int) s_nil)))))))
/-! ### _law_next -/
-- slots: 0 _law_source_here, 1 _law_many, 2 _law_found, 3 _law_primes, 4 _law_prime, 5 _law_mixed
abbrev N_l_next : List Str := ["_law_source_here", "_law_many", "_law_found", "_law_primes", "_law_prime", "_law_mixed"]
theorem sc_l_next : FnScope N_l_next ["_law_source_here", "_law_many"] (defScope s_l_next) := ⟨rfl, rfl, rfl, by decide +kernel, rfl, by decide +kernel, by decide +kernel⟩
def b_l_next : MS := (sSeq (sIf (mTest (mOp dGt (mOp dIx (mVar 0) (mC (D.int 2))) (mC (D.int 0)))) (sSeq (sAsg (mOp dMod (mCb dInt (mCons (mOp dIx (mVar 0) (mC (D.int 2))) mNil)) (mVar 1)) (tgName 2))
    (sSeq (sSetIx (mOp dDiv (mCb dInt (mCons (mOp dIx (mVar 0) (mC (D.int 2))) mNil)) (mVar 1)) (mVar 0) (mC (D.int 2)))
    (sRet (mVar 2)))) sNext)
    (sSeq (sSetIx (mOp dAdd (mOp dIx (mVar 0) (mC (D.int 1))) (mC (D.int 1))) (mVar 0) (mC (D.int 1)))
    (sSeq (sAsg (mFz (mLst (mCons (mC (D.int 2147483647)) (mCons (mC (D.int 2147483629)) (mCons (mC (D.int 2147483587)) (mCons (mC (D.int 2147483579)) (mCons (mC (D.int 2147483563)) (mCons (mC (D.int 2147483549)) (mCons (mC (D.int 2147483543)) (mCons (mC (D.int 2147483497)) mNil)))))))))) (tgName 3))
    (sSeq (sAsg (mOp dIx (mOp dAdd (mVar 3) (mFz (mLst (mCons (mC (D.int 2147483489)) (mCons (mC (D.int 2147483477)) (mCons (mC (D.int 2147483423)) mNil)))))) (mOp dMod (mCb dInt (mCons (mOp dIx (mVar 0) (mC (D.int 1))) mNil)) (mC (D.int 11)))) (tgName 4))
    (sSeq (sAsg (mOp dAdd (mOp dAdd (mOp dMod (mCb dInt (mCons (mOp dIx (mVar 0) (mC (D.int 0))) mNil)) (mVar 4)) (mOp dMul (mC (D.int 7919)) (mOp dIx (mVar 0) (mC (D.int 1))))) (mC (D.int 1))) (tgName 5))
    (sRet (mOp dMod (mCb dInt (mCons (mOp dDiv (mOp dMod (mCb dInt (mCons (mOp dPow (mVar 5) (mC (D.int 5))) mNil)) (mVar 4)) (mC (D.int 13))) mNil)) (mVar 1))))))))
def m_l_next : List D → Store → Rs D := fnK 2 4 b_l_next
theorem c_l_next (T : Tx K mg) : Cal P w K mg base 1 "_law_next" ["_law_source_here", "_law_many"] (modSp K m_l_next) := by
  refine cal_K (body := b_l_next) (nl := 4) T.d_l_next sc_l_next rfl (fun _ _ _ _ _ _ us hl => match us, hl with | [_, _], _ => rfl) (fun f cdv A outer s H E hr => ⟨_, (pss_cons (ps_if (pt_cmpR cm_Gt (pe_ix (ix_any (K := K)) (pv 0) pe_int (fun _ _ => rfl)) pe_int (nomark _)) (pss_cons (ps_set (i := 2) sc_l_next.nd rfl (by first | exact Or.inl rfl | exact Or.inr rfl) (pe_op op_mod (pe_callTy call_intA (by rfl) T.b_int (by decide +kernel) (pa_cons (pe_ix (ix_any (K := K)) (pv 0) pe_int (fun _ _ => rfl)) pa_nil)) (pv 1)))
      (pss_cons (ps_asg (pe_op op_FloorDiv (pe_callTy call_intA (by rfl) T.b_int (by decide +kernel) (pa_cons (pe_ix (ix_any (K := K)) (pv 0) pe_int (fun _ _ => rfl)) pa_nil)) (pv 1)) (pg_sub (pv 0) pe_int set_list))
      (pss_one (ps_ret (pv 2))))) pss_nil)
      (pss_cons (ps_asg (pe_op (op_Add (K := K)) (pe_ix (ix_any (K := K)) (pv 0) pe_int (fun _ _ => rfl)) pe_int) (pg_sub (pv 0) pe_int set_list))
      (pss_cons (ps_set (i := 3) sc_l_next.nd rfl (by first | exact Or.inl rfl | exact Or.inr rfl) (pe_lst (pa_cons pe_int (pa_cons pe_int (pa_cons pe_int (pa_cons pe_int (pa_cons pe_int (pa_cons pe_int (pa_cons pe_int (pa_cons pe_int pa_nil))))))))))
      (pss_cons (ps_set (i := 4) sc_l_next.nd rfl (by first | exact Or.inl rfl | exact Or.inr rfl) (pe_ix (ix_any (K := K)) (pe_op (op_Add (K := K)) (pv 3) (pe_lst (pa_cons pe_int (pa_cons pe_int (pa_cons pe_int pa_nil))))) (pe_op op_mod (pe_callTy call_intA (by rfl) T.b_int (by decide +kernel) (pa_cons (pe_ix (ix_any (K := K)) (pv 0) pe_int (fun _ _ => rfl)) pa_nil)) pe_int) (fun _ _ => rfl)))
      (pss_cons (ps_set (i := 5) sc_l_next.nd rfl (by first | exact Or.inl rfl | exact Or.inr rfl) (pe_op (op_Add (K := K)) (pe_op (op_Add (K := K)) (pe_op op_mod (pe_callTy call_intA (by rfl) T.b_int (by decide +kernel) (pa_cons (pe_ix (ix_any (K := K)) (pv 0) pe_int (fun _ _ => rfl)) pa_nil)) (pv 4)) (pe_op op_Mult pe_int (pe_ix (ix_any (K := K)) (pv 0) pe_int (fun _ _ => rfl)))) pe_int))
      (pss_one (ps_ret (pe_op op_mod (pe_callTy call_intA (by rfl) T.b_int (by decide +kernel) (pa_cons (pe_op op_FloorDiv (pe_op op_mod (pe_callTy call_intA (by rfl) T.b_int (by decide +kernel) (pa_cons (pe_op op_pow (pv 5) pe_int) pa_nil)) (pv 4)) pe_int) pa_nil)) (pv 1))))))))), ?_⟩)
  exact (t_seq (t_if (b_test (d_op od_gt (d_op od_ix (d_var 0) d_int) d_int)) (t_seq (t_asg (d_op od_mod (d_cb cd_int (s_cons (d_op od_ix (d_var 0) d_int) s_nil)) (d_var 1)) (g_name 2))
      (t_seq (t_setIx (d_op od_div (d_cb cd_int (s_cons (d_op od_ix (d_var 0) d_int) s_nil)) (d_var 1)) (d_var 0) d_int)
      (t_ret (d_var 2)))) t_next)
      (t_seq (t_setIx (d_op od_add (d_op od_ix (d_var 0) d_int) d_int) (d_var 0) d_int)
      (t_seq (t_asg (d_fz (c_lst (s_cons d_int (s_cons d_int (s_cons d_int (s_cons d_int (s_cons d_int (s_cons d_int (s_cons d_int (s_cons d_int s_nil)))))))))) (g_name 3))
      (t_seq (t_asg (d_op od_ix (d_op od_add (d_var 3) (d_fz (c_lst (s_cons d_int (s_cons d_int (s_cons d_int s_nil)))))) (d_op od_mod (d_cb cd_int (s_cons (d_op od_ix (d_var 0) d_int) s_nil)) d_int)) (g_name 4))
      (t_seq (t_asg (d_op od_add (d_op od_add (d_op od_mod (d_cb cd_int (s_cons (d_op od_ix (d_var 0) d_int) s_nil)) (d_var 4)) (d_op od_mul d_int (d_op od_ix (d_var 0) d_int))) d_int) (g_name 5))
      (t_ret (d_op od_mod (d_cb cd_int (s_cons (d_op od_div (d_op od_mod (d_cb cd_int (s_cons (d_op od_pow (d_var 5) d_int) s_nil)) (d_var 4)) d_int) s_nil)) (d_var 1))))))))
/-! ### _law_pick -/
-- slots: 0 _law_source_here, 1 _law_items
abbrev N_l_pick : List Str := ["_law_source_here", "_law_items"]
theorem sc_l_pick : FnScope N_l_pick ["_law_source_here", "_law_items"] (defScope s_l_pick) := ⟨rfl, rfl, rfl, by decide +kernel, rfl, by decide +kernel, by decide +kernel⟩
def b_l_pick : MS := (sRet (mOp dIx (mVar 1) (mCall m_l_next (mCons (mVar 0) (mCons (mCb dLen (mCons (mVar 1) mNil)) mNil)))))
def m_l_pick : List D → Store → Rs D := fnK 2 0 b_l_pick
theorem c_l_pick (T : Tx K mg) : Cal P w K mg base 2 "_law_pick" ["_law_source_here", "_law_items"] (modSp K m_l_pick) := by
  have C_l_next := c_l_next (P := P) (w := w) (base := base) T
  refine cal_K (body := b_l_pick) (nl := 0) T.d_l_pick sc_l_pick rfl (fun _ _ _ _ _ _ us hl => match us, hl with | [_, _], _ => rfl) (fun f cdv A outer s H E hr => ⟨_, (pss_one (ps_ret (pe_ix (ix_any (K := K)) (pv 1) (pe_callC C_l_next (hr.mono (by decide)) (by rfl) (pa_cons (pv 0) (pa_cons (pe_callB (call_lenA (K := K)) (by rfl) T.b_len (by decide +kernel) (pa_cons (pv 1) pa_nil)) pa_nil))) (fun _ _ => rfl)))), ?_⟩)
  exact (t_ret (d_op od_ix (d_var 1) (d_call (s_cons (d_var 0) (s_cons (d_cb cd_len (s_cons (d_var 1) s_nil)) s_nil)))))
/-! ### _law_rounds -/
-- slots: 0 _law_script, 1 _law_most, 2 _law_blend, 3 _law_cells, 4 _law_k
abbrev N_l_rounds : List Str := ["_law_script", "_law_most", "_law_blend", "_law_cells", "_law_k"]
theorem sc_l_rounds : FnScope N_l_rounds ["_law_script", "_law_most"] (defScope s_l_rounds) := ⟨rfl, rfl, rfl, by decide +kernel, rfl, by decide +kernel, by decide +kernel⟩
def le_l_rounds_1 : Mo D := (mCall m_l_source (mCons (mVar 3) (mCons (mVar 4) mNil)))
def b_l_rounds : MS := (sSeq (sAsg (mOp dMod (mCb dInt (mCons (mOp dAdd (mOp dAdd (mOp dMul (mCb dSum (mCons (mVar 0) mNil)) (mC (D.int 48271))) (mOp dMul (mC (D.int 104729)) (mCb dLen (mCons (mVar 0) mNil)))) (mC (D.int 17))) mNil)) (mOp dPow (mC (D.int 10)) (mC (D.int 17)))) (tgName 2))
    (sSeq (sAsg (mOp dAdd (mFz (mCc lList (mCons (mSl dSlV (mVar 0) mNoP (mPart (mVar 1))) mNil))) (mFz (mLst (mCons (mVar 2) mNil)))) (tgName 3))
    (sRet (mFz (mLc (mRange1 (mCons (mCb dLen (mCons (mVar 3) mNil)) mNil)) (tgName 4) (mC true) le_l_rounds_1 [4])))))
def m_l_rounds : List D → Store → Rs D := fnK 2 3 b_l_rounds
theorem c_l_rounds (T : Tx K mg) : Cal P w K mg base 2 "_law_rounds" ["_law_script", "_law_most"] (modSp K m_l_rounds) := by
  have C_l_source := c_l_source (P := P) (w := w) (base := base) T
  refine cal_K (body := b_l_rounds) (nl := 3) T.d_l_rounds sc_l_rounds rfl (fun _ _ _ _ _ _ us hl => match us, hl with | [_, _], _ => rfl) (fun f cdv A outer s H E hr => ⟨_, (pss_cons (ps_set (i := 2) sc_l_rounds.nd rfl (by first | exact Or.inl rfl | exact Or.inr rfl) (pe_op op_mod (pe_callTy call_intA (by rfl) T.b_int (by decide +kernel) (pa_cons (pe_op (op_Add (K := K)) (pe_op (op_Add (K := K)) (pe_op op_Mult (pe_callB (call_sumA (K := K)) (by rfl) T.b_sum (by decide +kernel) (pa_cons (pv 0) pa_nil)) pe_int) (pe_op op_Mult pe_int (pe_callB (call_lenA (K := K)) (by rfl) T.b_len (by decide +kernel) (pa_cons (pv 0) pa_nil)))) pe_int) pa_nil)) (pe_op op_pow pe_int pe_int)))
      (pss_cons (ps_set (i := 3) sc_l_rounds.nd rfl (by first | exact Or.inl rfl | exact Or.inr rfl) (pe_op (op_Add (K := K)) (pe_callTy (call_listA (K := K)) (by rfl) T.b_list (by decide +kernel) (pa_cons (pe_slice (sl_all (K := K)) (pv 0) po_none (po_some (pv 1))) pa_nil)) (pe_lst (pa_cons (pv 2) pa_nil))))
      (pss_one (ps_ret (pe_lc (own := [("_law_k", 4)]) (by rfl) sc_l_rounds.nd (pi_range1 (by rfl) T.b_range (pa_cons (pe_callB (call_lenA (K := K)) (by rfl) T.b_len (by decide +kernel) (pa_cons (pv 3) pa_nil)) pa_nil)) (blkOk_by (own := [("_law_k", 4)]) (N := N_l_rounds) (sc := defScope s_l_rounds) (by decide +kernel)) (fun _ _ _ _ _ => (pg_name (i := 4) sc_l_rounds.nd rfl (by first | exact Or.inl rfl | exact Or.inr rfl))) (fun _ _ _ _ _ => pts_nil) (fun _ _ _ _ _ => (pe_callC C_l_source (hr.mono (by decide)) (by rfl) (pa_cons (pv 3) (pa_cons (pv 4) pa_nil))))))))), ?_⟩)
  exact (t_seq (t_asg (d_op od_mod (d_cb cd_int (s_cons (d_op od_add (d_op od_add (d_op od_mul (d_cb cd_sum (s_cons (d_var 0) s_nil)) d_int) (d_op od_mul d_int (d_cb cd_len (s_cons (d_var 0) s_nil)))) d_int) s_nil)) (d_op od_pow d_int d_int)) (g_name 2))
      (t_seq (t_asg (d_op od_add (d_fz (c_cb cc_list (s_cons (d_sl sd_all (d_var 0) o_none (o_some (d_var 1))) s_nil))) (d_fz (c_lst (s_cons (d_var 2) s_nil)))) (g_name 3))
      (t_ret (d_fz (c_lc (vs := [4]) (i_range1 (s_cons (d_cb cd_len (s_cons (d_var 3) s_nil)) s_nil)) (g_name 4) (by decide) b_yes (d_call (s_cons (d_var 3) (s_cons (d_var 4) s_nil))))))))
/-! ### _law_leaf_line -/
-- slots: 0 _law_pairs, 1 _law_word, 2 _law_told
abbrev N_l_leaf_line : List Str := ["_law_pairs", "_law_word", "_law_told"]
theorem sc_l_leaf_line : FnScope N_l_leaf_line ["_law_pairs"] (defScope s_l_leaf_line) := ⟨rfl, rfl, rfl, by decide +kernel, rfl, by decide +kernel, by decide +kernel⟩
def le_l_leaf_line_1 : Mo D := (mOp dAdd (mOp dAdd (mVar 1) (mC (D.str [61]))) (mCall m_l_escaped (mCons (mVar 2) mNil)))
def b_l_leaf_line : MS := (sRet (mBm dJoin (mC (D.str [43])) (mCons (mFz (mLc (mIter (mVar 0)) (tgT 2 (tgCons (tgName 1) (tgCons (tgName 2) tgNil))) (mC true) le_l_leaf_line_1 [1, 2])) mNil)))
def m_l_leaf_line : List D → Store → Rs D := fnK 1 2 b_l_leaf_line
theorem c_l_leaf_line (T : Tx K mg) : Cal P w K mg base 2 "_law_leaf_line" ["_law_pairs"] (modSp K m_l_leaf_line) := by
  have C_l_escaped := c_l_escaped (P := P) (w := w) (base := base) T
  refine cal_K (body := b_l_leaf_line) (nl := 2) T.d_l_leaf_line sc_l_leaf_line rfl (fun _ _ _ _ _ _ us hl => match us, hl with | [_], _ => rfl) (fun f cdv A outer s H E hr => ⟨_, (pss_one (ps_ret (pe_bmK (K := K) PySem.F.plainAttrs_str PySem.F.slot_str_join PySem.F.type_str_join (mt_joinA (K := K)) pe_str (pa_cons (pe_lc (own := [("_law_word", 1), ("_law_told", 2)]) (by rfl) sc_l_leaf_line.nd (pi_any (K := K) (pv 0)) (blkOk_by (own := [("_law_word", 1), ("_law_told", 2)]) (N := N_l_leaf_line) (sc := defScope s_l_leaf_line) (by decide +kernel)) (fun _ _ _ _ _ => (pg_tupK (K := K) (n := 2) rfl (pgs_cons (pg_name (i := 1) sc_l_leaf_line.nd rfl (by first | exact Or.inl rfl | exact Or.inr rfl)) (pgs_cons (pg_name (i := 2) sc_l_leaf_line.nd rfl (by first | exact Or.inl rfl | exact Or.inr rfl)) pgs_nil)))) (fun _ _ _ _ _ => pts_nil) (fun _ _ _ _ _ => (pe_op (op_Add (K := K)) (pe_op (op_Add (K := K)) (pv 1) pe_str) (pe_callC C_l_escaped (hr.mono (by decide)) (by rfl) (pa_cons (pv 2) pa_nil))))) pa_nil)))), ?_⟩)
  exact (t_ret (d_bm md_join (d_str [43] (by decide +kernel)) (s_cons (d_fz (c_lc (vs := [1, 2]) (i_any (d_var 0)) (g_tup (g_cons (g_name 1) (g_cons (g_name 2) g_nil))) (by decide) b_yes (d_op od_add (d_op od_add (d_var 1) (d_str [61] (by decide +kernel))) (d_call (s_cons (d_var 2) s_nil))))) s_nil)))
/-! ### _law_low_leaf -/
-- slots: 0 _law_pairs, 1 _law_word, 2 _law_told
abbrev N_l_low_leaf : List Str := ["_law_pairs", "_law_word", "_law_told"]
theorem sc_l_low_leaf : FnScope N_l_low_leaf ["_law_pairs"] (defScope s_l_low_leaf) := ⟨rfl, rfl, rfl, by decide +kernel, rfl, by decide +kernel, by decide +kernel⟩
def le_l_low_leaf_1 : Mo D := (mTup (mCons (mVar 1) (mCons (mCall m_l_low (mCons (mVar 2) mNil)) mNil)))
def b_l_low_leaf : MS := (sRet (mCall m_l_leaf_line (mCons (mFz (mCc lSorted (mCons (mFz (mLc (mIter (mVar 0)) (tgT 2 (tgCons (tgName 1) (tgCons (tgName 2) tgNil))) (mC true) le_l_low_leaf_1 [1, 2])) mNil))) mNil)))
def m_l_low_leaf : List D → Store → Rs D := fnK 1 2 b_l_low_leaf
theorem c_l_low_leaf (T : Tx K mg) : Cal P w K mg base 3 "_law_low_leaf" ["_law_pairs"] (modSp K m_l_low_leaf) := by
  have C_l_leaf_line := c_l_leaf_line (P := P) (w := w) (base := base) T
  have C_l_low := c_l_low (P := P) (w := w) (base := base) T
  refine cal_K (body := b_l_low_leaf) (nl := 2) T.d_l_low_leaf sc_l_low_leaf rfl (fun _ _ _ _ _ _ us hl => match us, hl with | [_], _ => rfl) (fun f cdv A outer s H E hr => ⟨_, (pss_one (ps_ret (pe_callC C_l_leaf_line (hr.mono (by decide)) (by rfl) (pa_cons (pe_callB (cr_sortedA (K := K)) (by rfl) T.b_sorted (by decide +kernel) (pa_cons (pe_lc (own := [("_law_word", 1), ("_law_told", 2)]) (by rfl) sc_l_low_leaf.nd (pi_any (K := K) (pv 0)) (blkOk_by (own := [("_law_word", 1), ("_law_told", 2)]) (N := N_l_low_leaf) (sc := defScope s_l_low_leaf) (by decide +kernel)) (fun _ _ _ _ _ => (pg_tupK (K := K) (n := 2) rfl (pgs_cons (pg_name (i := 1) sc_l_low_leaf.nd rfl (by first | exact Or.inl rfl | exact Or.inr rfl)) (pgs_cons (pg_name (i := 2) sc_l_low_leaf.nd rfl (by first | exact Or.inl rfl | exact Or.inr rfl)) pgs_nil)))) (fun _ _ _ _ _ => pts_nil) (fun _ _ _ _ _ => (pe_tup (pa_cons (pv 1) (pa_cons (pe_callC C_l_low (hr.mono (by decide)) (by rfl) (pa_cons (pv 2) pa_nil)) pa_nil))))) pa_nil)) pa_nil)))), ?_⟩)
  exact (t_ret (d_call (s_cons (d_fz (c_cb cc_sorted (s_cons (d_fz (c_lc (vs := [1, 2]) (i_any (d_var 0)) (g_tup (g_cons (g_name 1) (g_cons (g_name 2) g_nil))) (by decide) b_yes (d_tup (s_cons (d_var 1) (s_cons (d_call (s_cons (d_var 2) s_nil)) s_nil))))) s_nil))) s_nil)))
/-! ### _law_line -/
-- slots: 0 _law_leaves, 1 _law_pairs
abbrev N_l_line : List Str := ["_law_leaves", "_law_pairs"]
theorem sc_l_line : FnScope N_l_line ["_law_leaves"] (defScope s_l_line) := ⟨rfl, rfl, rfl, by decide +kernel, rfl, by decide +kernel, by decide +kernel⟩
def le_l_line_1 : Mo D := (mCall m_l_leaf_line (mCons (mVar 1) mNil))
def b_l_line : MS := (sRet (mBm dJoin (mC (D.str [44])) (mCons (mFz (mLc (mIter (mVar 0)) (tgName 1) (mC true) le_l_line_1 [1])) mNil)))
def m_l_line : List D → Store → Rs D := fnK 1 1 b_l_line
theorem c_l_line (T : Tx K mg) : Cal P w K mg base 3 "_law_line" ["_law_leaves"] (modSp K m_l_line) := by
  have C_l_leaf_line := c_l_leaf_line (P := P) (w := w) (base := base) T
  refine cal_K (body := b_l_line) (nl := 1) T.d_l_line sc_l_line rfl (fun _ _ _ _ _ _ us hl => match us, hl with | [_], _ => rfl) (fun f cdv A outer s H E hr => ⟨_, (pss_one (ps_ret (pe_bmK (K := K) PySem.F.plainAttrs_str PySem.F.slot_str_join PySem.F.type_str_join (mt_joinA (K := K)) pe_str (pa_cons (pe_lc (own := [("_law_pairs", 1)]) (by rfl) sc_l_line.nd (pi_any (K := K) (pv 0)) (blkOk_by (own := [("_law_pairs", 1)]) (N := N_l_line) (sc := defScope s_l_line) (by decide +kernel)) (fun _ _ _ _ _ => (pg_name (i := 1) sc_l_line.nd rfl (by first | exact Or.inl rfl | exact Or.inr rfl))) (fun _ _ _ _ _ => pts_nil) (fun _ _ _ _ _ => (pe_callC C_l_leaf_line (hr.mono (by decide)) (by rfl) (pa_cons (pv 1) pa_nil)))) pa_nil)))), ?_⟩)
  exact (t_ret (d_bm md_join (d_str [44] (by decide +kernel)) (s_cons (d_fz (c_lc (vs := [1]) (i_any (d_var 0)) (g_name 1) (by decide) b_yes (d_call (s_cons (d_var 1) s_nil)))) s_nil)))
/-! ### _law_low_line -/
-- slots: 0 _law_leaves, 1 _law_pairs
abbrev N_l_low_line : List Str := ["_law_leaves", "_law_pairs"]
theorem sc_l_low_line : FnScope N_l_low_line ["_law_leaves"] (defScope s_l_low_line) := ⟨rfl, rfl, rfl, by decide +kernel, rfl, by decide +kernel, by decide +kernel⟩
def le_l_low_line_1 : Mo D := (mCall m_l_low_leaf (mCons (mVar 1) mNil))
def b_l_low_line : MS := (sRet (mBm dJoin (mC (D.str [44])) (mCons (mFz (mLc (mIter (mVar 0)) (tgName 1) (mC true) le_l_low_line_1 [1])) mNil)))
def m_l_low_line : List D → Store → Rs D := fnK 1 1 b_l_low_line
theorem c_l_low_line (T : Tx K mg) : Cal P w K mg base 4 "_law_low_line" ["_law_leaves"] (modSp K m_l_low_line) := by
  have C_l_low_leaf := c_l_low_leaf (P := P) (w := w) (base := base) T
  refine cal_K (body := b_l_low_line) (nl := 1) T.d_l_low_line sc_l_low_line rfl (fun _ _ _ _ _ _ us hl => match us, hl with | [_], _ => rfl) (fun f cdv A outer s H E hr => ⟨_, (pss_one (ps_ret (pe_bmK (K := K) PySem.F.plainAttrs_str PySem.F.slot_str_join PySem.F.type_str_join (mt_joinA (K := K)) pe_str (pa_cons (pe_lc (own := [("_law_pairs", 1)]) (by rfl) sc_l_low_line.nd (pi_any (K := K) (pv 0)) (blkOk_by (own := [("_law_pairs", 1)]) (N := N_l_low_line) (sc := defScope s_l_low_line) (by decide +kernel)) (fun _ _ _ _ _ => (pg_name (i := 1) sc_l_low_line.nd rfl (by first | exact Or.inl rfl | exact Or.inr rfl))) (fun _ _ _ _ _ => pts_nil) (fun _ _ _ _ _ => (pe_callC C_l_low_leaf (hr.mono (by decide)) (by rfl) (pa_cons (pv 1) pa_nil)))) pa_nil)))), ?_⟩)
  exact (t_ret (d_bm md_join (d_str [44] (by decide +kernel)) (s_cons (d_fz (c_lc (vs := [1]) (i_any (d_var 0)) (g_name 1) (by decide) b_yes (d_call (s_cons (d_var 1) s_nil)))) s_nil)))
/-! ### _law_drawn -/
-- slots: 0 _law_source_here, 1 _law_some, 2 _law_way, 3 _law_found, 4 _law_turn, 5 _law_told
abbrev N_l_drawn : List Str := ["_law_source_here", "_law_some", "_law_way", "_law_found", "_law_turn", "_law_told"]
theorem sc_l_drawn : FnScope N_l_drawn ["_law_source_here"] (defScope s_l_drawn) := ⟨rfl, rfl, rfl, by decide +kernel, rfl, by decide +kernel, by decide +kernel⟩
def lb_l_drawn_1 : MS := (sSeq (sAsg (mCall m_l_pick (mCons (mVar 0) (mCons (mFz (mLst (mCons (mC (D.str [120])) (mCons (mC (D.str [65])) (mCons (mC (D.str [92, 44])) (mCons (mC (D.str [98, 32, 99])) (mCons (mC (D.str [92, 32, 97])) (mCons (mC (D.str [92, 92])) (mCons (mC (D.str [120, 92, 32])) (mCons (mC (D.str [92, 61, 61])) mNil)))))))))) mNil))) (tgName 5))
    (sAsg (mOp dAdd (mOp dAdd (mOp dAdd (mVar 3) (mOp dMul (mCall m_l_pick (mCons (mVar 0) (mCons (mFz (mLst (mCons (mC (D.str [44])) (mCons (mC (D.str [43])) mNil)))) mNil))) (mCb dInt (mCons (mOp dNe (mVar 3) (mC (D.str []))) mNil)))) (mCall m_l_pick (mCons (mVar 0) (mCons (mFz (mLst (mCons (mC (D.str [97, 61])) (mCons (mC (D.str [98, 61])) (mCons (mC (D.str [99, 110, 61])) mNil))))) mNil)))) (mVar 5)) (tgName 3)))
def lb_l_drawn_2 : MS := (sAsg (mOp dAdd (mVar 3) (mCall m_l_pick (mCons (mVar 0) (mCons (mIf (mTest (mOp dGt (mVar 2) (mC (D.int 0)))) (mVar 1) (mSl dSlV (mVar 1) mNoP (mPart (mC (D.int 7))))) mNil)))) (tgName 3))
def b_l_drawn : MS := (sSeq (sAsg (mFz (mLst (mCons (mC (D.str [97])) (mCons (mC (D.str [98])) (mCons (mC (D.str [61])) (mCons (mC (D.str [43])) (mCons (mC (D.str [44])) (mCons (mC (D.str [92])) (mCons (mC (D.str [32])) (mCons (mC (D.str [97, 61])) (mCons (mC (D.str [98, 61])) (mCons (mC (D.str [44, 97, 61])) (mCons (mC (D.str [43, 98, 61])) (mCons (mC (D.str [65])) (mCons (mC (D.str [120])) (mCons (mC (D.str [92, 44])) (mCons (mC (D.str [92, 32])) (mCons (mC (D.str [61, 97])) (mCons (mC (D.str [92, 92])) (mCons (mC (D.str [99, 110, 61, 97])) mNil)))))))))))))))))))) (tgName 1))
    (sSeq (sPar 2 3 (mCons (mCall m_l_next (mCons (mVar 0) (mCons (mC (D.int 6)) mNil))) (mCons (mC (D.str [])) mNil)))
    (sSeq (sFor (mRange1 (mCons (mIf (mTest (mOp dGt (mVar 2) (mC (D.int 3)))) (mOp dAdd (mC (D.int 1)) (mCall m_l_next (mCons (mVar 0) (mCons (mC (D.int 3)) mNil)))) (mC (D.int 0))) mNil)) (tgName 4) lb_l_drawn_1)
    (sSeq (sIf (mTest (mOp dGt (mVar 2) (mC (D.int 3)))) (sRet (mVar 3)) sNext)
    (sSeq (sFor (mRange1 (mCons (mOp dAdd (mC (D.int 1)) (mCall m_l_next (mCons (mVar 0) (mCons (mC (D.int 8)) mNil)))) mNil)) (tgName 4) lb_l_drawn_2)
    (sRet (mIf (mTest (mOp dLtA (mVar 2) (mC (D.int 2)))) (mSl dSlV (mVar 3) mNoP (mPart (mC (D.int 24)))) (mOp dAdd (mC (D.str [97, 61])) (mSl dSlV (mVar 3) mNoP (mPart (mC (D.int 24))))))))))))
def m_l_drawn : List D → Store → Rs D := fnK 1 5 b_l_drawn
theorem c_l_drawn (T : Tx K mg) : Cal P w K mg base 3 "_law_drawn" ["_law_source_here"] (modSp K m_l_drawn) := by
  have C_l_next := c_l_next (P := P) (w := w) (base := base) T
  have C_l_pick := c_l_pick (P := P) (w := w) (base := base) T
  refine cal_K (body := b_l_drawn) (nl := 5) T.d_l_drawn sc_l_drawn rfl (fun _ _ _ _ _ _ us hl => match us, hl with | [_], _ => rfl) (fun f cdv A outer s H E hr => ⟨_, (pss_cons (ps_set (i := 1) sc_l_drawn.nd rfl (by first | exact Or.inl rfl | exact Or.inr rfl) (pe_lst (pa_cons pe_str (pa_cons pe_str (pa_cons pe_str (pa_cons pe_str (pa_cons pe_str (pa_cons pe_str (pa_cons pe_str (pa_cons pe_str (pa_cons pe_str (pa_cons pe_str (pa_cons pe_str (pa_cons pe_str (pa_cons pe_str (pa_cons pe_str (pa_cons pe_str (pa_cons pe_str (pa_cons pe_str (pa_cons pe_str pa_nil))))))))))))))))))))
      (pss_cons (ps_par (i := 2) (j := 3) (by rfl) sc_l_drawn.nd rfl rfl (by decide) rfl rfl (pa_cons (pe_callC C_l_next (hr.mono (by decide)) (by rfl) (pa_cons (pv 0) (pa_cons pe_int pa_nil))) (pa_cons pe_str pa_nil)) (by rfl))
      (pss_cons (ps_for PassesOwn.never rfl (pi_range1 (by rfl) T.b_range (pa_cons (pe_ifExp (pt_cmpR cm_Gt (pv 2) pe_int (nomark _)) (pe_op (op_Add (K := K)) pe_int (pe_callC C_l_next (hr.mono (by decide)) (by rfl) (pa_cons (pv 0) (pa_cons pe_int pa_nil)))) pe_int) pa_nil)) (pg_name (i := 4) sc_l_drawn.nd rfl (by first | exact Or.inl rfl | exact Or.inr rfl))
      (pss_cons (ps_set (i := 5) sc_l_drawn.nd rfl (by first | exact Or.inl rfl | exact Or.inr rfl) (pe_callC C_l_pick (hr.mono (by decide)) (by rfl) (pa_cons (pv 0) (pa_cons (pe_lst (pa_cons pe_str (pa_cons pe_str (pa_cons pe_str (pa_cons pe_str (pa_cons pe_str (pa_cons pe_str (pa_cons pe_str (pa_cons pe_str pa_nil))))))))) pa_nil))))
      (pss_one (ps_set (i := 3) sc_l_drawn.nd rfl (by first | exact Or.inl rfl | exact Or.inr rfl) (pe_op (op_Add (K := K)) (pe_op (op_Add (K := K)) (pe_op (op_Add (K := K)) (pv 3) (pe_op op_Mult (pe_callC C_l_pick (hr.mono (by decide)) (by rfl) (pa_cons (pv 0) (pa_cons (pe_lst (pa_cons pe_str (pa_cons pe_str pa_nil))) pa_nil))) (pe_callTy call_intA (by rfl) T.b_int (by decide +kernel) (pa_cons (pe_cmpR (cm_NotEq (K := K) hr.units) (pv 3) pe_str (nomark _)) pa_nil)))) (pe_callC C_l_pick (hr.mono (by decide)) (by rfl) (pa_cons (pv 0) (pa_cons (pe_lst (pa_cons pe_str (pa_cons pe_str (pa_cons pe_str pa_nil)))) pa_nil)))) (pv 5))))))
      (pss_cons (ps_if (pt_cmpR cm_Gt (pv 2) pe_int (nomark _)) (pss_one (ps_ret (pv 3))) pss_nil)
      (pss_cons (ps_for PassesOwn.never rfl (pi_range1 (by rfl) T.b_range (pa_cons (pe_op (op_Add (K := K)) pe_int (pe_callC C_l_next (hr.mono (by decide)) (by rfl) (pa_cons (pv 0) (pa_cons pe_int pa_nil)))) pa_nil)) (pg_name (i := 4) sc_l_drawn.nd rfl (by first | exact Or.inl rfl | exact Or.inr rfl))
      (pss_one (ps_set (i := 3) sc_l_drawn.nd rfl (by first | exact Or.inl rfl | exact Or.inr rfl) (pe_op (op_Add (K := K)) (pv 3) (pe_callC C_l_pick (hr.mono (by decide)) (by rfl) (pa_cons (pv 0) (pa_cons (pe_ifExp (pt_cmpR cm_Gt (pv 2) pe_int (nomark _)) (pv 1) (pe_slice (sl_all (K := K)) (pv 1) po_none (po_some pe_int))) pa_nil)))))))
      (pss_one (ps_ret (pe_ifExp (pt_cmpR (cm_LtA (K := K) hr.units) (pv 2) pe_int (nomark _)) (pe_slice (sl_all (K := K)) (pv 3) po_none (po_some pe_int)) (pe_op (op_Add (K := K)) pe_str (pe_slice (sl_all (K := K)) (pv 3) po_none (po_some pe_int))))))))))), ?_⟩)
  exact (t_seq (t_asg (d_fz (c_lst (s_cons (d_str [97] (by decide +kernel)) (s_cons (d_str [98] (by decide +kernel)) (s_cons (d_str [61] (by decide +kernel)) (s_cons (d_str [43] (by decide +kernel)) (s_cons (d_str [44] (by decide +kernel)) (s_cons (d_str [92] (by decide +kernel)) (s_cons (d_str [32] (by decide +kernel)) (s_cons (d_str [97, 61] (by decide +kernel)) (s_cons (d_str [98, 61] (by decide +kernel)) (s_cons (d_str [44, 97, 61] (by decide +kernel)) (s_cons (d_str [43, 98, 61] (by decide +kernel)) (s_cons (d_str [65] (by decide +kernel)) (s_cons (d_str [120] (by decide +kernel)) (s_cons (d_str [92, 44] (by decide +kernel)) (s_cons (d_str [92, 32] (by decide +kernel)) (s_cons (d_str [61, 97] (by decide +kernel)) (s_cons (d_str [92, 92] (by decide +kernel)) (s_cons (d_str [99, 110, 61, 97] (by decide +kernel)) s_nil)))))))))))))))))))) (g_name 1))
      (t_seq (t_par (s_cons (d_call (s_cons (d_var 0) (s_cons d_int s_nil))) (s_cons (d_str [] (by decide +kernel)) s_nil)))
      (t_seq (t_for (i_range1 (s_cons (d_if (b_test (d_op od_gt (d_var 2) d_int)) (d_op od_add d_int (d_call (s_cons (d_var 0) (s_cons d_int s_nil)))) d_int) s_nil)) (g_name 4) (t_seq (t_asg (d_call (s_cons (d_var 0) (s_cons (d_fz (c_lst (s_cons (d_str [120] (by decide +kernel)) (s_cons (d_str [65] (by decide +kernel)) (s_cons (d_str [92, 44] (by decide +kernel)) (s_cons (d_str [98, 32, 99] (by decide +kernel)) (s_cons (d_str [92, 32, 97] (by decide +kernel)) (s_cons (d_str [92, 92] (by decide +kernel)) (s_cons (d_str [120, 92, 32] (by decide +kernel)) (s_cons (d_str [92, 61, 61] (by decide +kernel)) s_nil)))))))))) s_nil))) (g_name 5))
      (t_asg (d_op od_add (d_op od_add (d_op od_add (d_var 3) (d_op od_mul (d_call (s_cons (d_var 0) (s_cons (d_fz (c_lst (s_cons (d_str [44] (by decide +kernel)) (s_cons (d_str [43] (by decide +kernel)) s_nil)))) s_nil))) (d_cb cd_int (s_cons (d_op od_ne (d_var 3) (d_str [] (by decide +kernel))) s_nil)))) (d_call (s_cons (d_var 0) (s_cons (d_fz (c_lst (s_cons (d_str [97, 61] (by decide +kernel)) (s_cons (d_str [98, 61] (by decide +kernel)) (s_cons (d_str [99, 110, 61] (by decide +kernel)) s_nil))))) s_nil)))) (d_var 5)) (g_name 3))))
      (t_seq (t_if (b_test (d_op od_gt (d_var 2) d_int)) (t_ret (d_var 3)) t_next)
      (t_seq (t_for (i_range1 (s_cons (d_op od_add d_int (d_call (s_cons (d_var 0) (s_cons d_int s_nil)))) s_nil)) (g_name 4) (t_asg (d_op od_add (d_var 3) (d_call (s_cons (d_var 0) (s_cons (d_if (b_test (d_op od_gt (d_var 2) d_int)) (d_var 1) (d_sl sd_all (d_var 1) o_none (o_some d_int))) s_nil)))) (g_name 3)))
      (t_ret (d_if (b_test (d_op od_ltA (d_var 2) d_int)) (d_sl sd_all (d_var 3) o_none (o_some d_int)) (d_op od_add (d_str [97, 61] (by decide +kernel)) (d_sl sd_all (d_var 3) o_none (o_some d_int))))))))))
/-! ### _law_read -/
-- slots: 0 _law_line_here, 1 _law_error, 2 _law_found, 3 e
abbrev N_l_read : List Str := ["_law_line_here", "_law_error", "_law_found", "e"]
theorem sc_l_read : FnScope N_l_read ["_law_line_here"] (defScope s_l_read) := ⟨rfl, rfl, rfl, by decide +kernel, rfl, by decide +kernel, by decide +kernel⟩
def lb_l_read_1 : MS := (sAsgX (mMakeX false "Name" m_Name___init 1 0 [0, 1] [D.str []] (mC (D.cls "Name")) (mCons (mVar 0) mNil) mNil) (tgName 2))
def lb_l_read_2 : MS := (sAsg (mVar 3) (tgName 1))
def b_l_read : MS := (sSeq (sAsg (mTup (mCons (mC D.non) (mCons (mC D.non) mNil))) (tgT 2 (tgCons (tgName 1) (tgCons (tgName 2) tgNil))))
    (sSeq (sTryAs ecs "BadName" 3 lb_l_read_1 lb_l_read_2)
    (sSeq (sIf (mTest (mOp dIs (mVar 1) (mC D.non))) (sRet (mVar 2)) sNext)
    (sRet (mIf (mTest (mOp dEq (mXfld ecs efs "given" (mVar 1)) (mVar 0))) (mC D.non) (mC (D.str [111, 116, 104, 101, 114])))))))
def m_l_read : List D → Store → Rs D := fnK 1 3 b_l_read
theorem c_l_read (T : Tx K mg) : Cal P w K mg base 7 "_law_read" ["_law_line_here"] (modSp K m_l_read) := by
  have C_Name___init := c_Name___init (P := P) (w := w) (base := base) T
  refine cal_K (body := b_l_read) (nl := 3) T.d_l_read sc_l_read rfl (fun _ _ _ _ _ _ us hl => match us, hl with | [_], _ => rfl) (fun f cdv A outer s H E hr => ⟨_, (pss_cons (ps_asg (pe_tup (pa_cons pe_non (pa_cons pe_non pa_nil))) (pg_tupK (K := K) (n := 2) rfl (pgs_cons (pg_name (i := 1) sc_l_read.nd rfl (by first | exact Or.inl rfl | exact Or.inr rfl)) (pgs_cons (pg_name (i := 2) sc_l_read.nd rfl (by first | exact Or.inl rfl | exact Or.inr rfl)) pgs_nil))))
      (pss_cons (ps_try_keep (i := 3) rfl rfl rfl sc_l_read.nd rfl rfl ⟨by rfl, by decide, .inl T.k_BadName⟩ (fun W pn xe tk po => (pss_one (ps_set (i := 2) sc_l_read.nd rfl (by first | exact Or.inl rfl | exact Or.inr rfl) (pe_makeP (E := WE W) T.mk_Name C_Name___init (hr.mono (by decide)) (bs_D (n := 2) (ks := []) (js := [0, 1]) (fun z => nomatch z) (fun T _ _ _ _ _ _ us its ws h1 h2 h3 => match us, its, ws, h1, h2, h3 with | [_, _], [_], [], _, _, _ => ⟨_, rfl, rfl⟩)) (fun σ => L2.passAt tk σ) (pe_globR (by rfl) T.k_Name) (pa_cons (pv 0) pa_nil) pk_nil)))) (fun a pn => (pss_one (ps_set (i := 1) sc_l_read.nd rfl (by first | exact Or.inl rfl | exact Or.inr rfl) (pv 3)))))
      (pss_cons (ps_if (pt_cmpR cm_Is (pv 1) pe_non (nomark _)) (pss_one (ps_ret (pv 2))) pss_nil)
      (pss_one (ps_ret (pe_ifExp (pt_cmpR (cm_Eq (K := K) hr.units) (pe_xfld (K := K) (pv 1)) (pv 0) (nomark _)) pe_non pe_str)))))), ?_⟩)
  exact (t_seq (t_asg (d_tup (s_cons d_non (s_cons d_non s_nil))) (g_tup (g_cons (g_name 1) (g_cons (g_name 2) g_nil))))
      (t_seq (t_tryAs T.Ec (fun W => (t_asgX (x_makeX (fun A M H => show RepL K A M H [V.str ""] [D.str []] from ⟨_, _, rfl, congrArg V.str (by decide +kernel), rfl⟩) d_cls (s_cons (d_var 0) s_nil) s_nil) (g_name 2))) (t_asg (d_var 3) (g_name 1)))
      (t_seq (t_if (b_test (d_op od_is (d_var 1) d_non)) (t_ret (d_var 2)) t_next)
      (t_ret (d_if (b_test (d_op od_eq (d_xfld T.Er (d_var 1)) (d_var 0))) d_non (d_str [111, 116, 104, 101, 114] (by decide +kernel)))))))
/-! ### _law_pairs_told -/
-- slots: 0 _law_name_here, 1 _law_found, 2 _law_turn
abbrev N_l_pairs_told : List Str := ["_law_name_here", "_law_found", "_law_turn"]
theorem sc_l_pairs_told : FnScope N_l_pairs_told ["_law_name_here"] (defScope s_l_pairs_told) := ⟨rfl, rfl, rfl, by decide +kernel, rfl, by decide +kernel, by decide +kernel⟩
def lb_l_pairs_told_1 : MS := (sSeq (sDrop (mApp (mVar 1) (mFz (mCc lList (mCons (mPropP ctab ["Name"] m_Name_pairs (mVar 0)) mNil)))))
    (sAsg (mPropP ctab ["Name"] m_Name_parent (mVar 0)) (tgName 0)))
def b_l_pairs_told : MS := (sSeq (sAsg (mCell (mLst mNil)) (tgName 1))
    (sSeq (sFor (mRange1 (mCons (mPropP ctab ["Name"] m_Name_depth (mVar 0)) mNil)) (tgName 2) lb_l_pairs_told_1)
    (sRet (mVar 1))))
def m_l_pairs_told : List D → Store → Rs D := fnD 1 2 b_l_pairs_told
theorem c_l_pairs_told (T : Tx K mg) : Cal P w K mg base 9 "_law_pairs_told" ["_law_name_here"] (modSp K m_l_pairs_told) := by
  have C_Name_depth := c_Name_depth (P := P) (w := w) (base := base) T
  have C_Name_pairs := c_Name_pairs (P := P) (w := w) (base := base) T
  have C_Name_parent := c_Name_parent (P := P) (w := w) (base := base) T
  refine cal_D (body := b_l_pairs_told) (nl := 2) T.d_l_pairs_told sc_l_pairs_told rfl (fun _ _ _ _ _ _ us hl => match us, hl with | [_], _ => rfl) (fun f cdv A outer s H E hr => ⟨_, (pss_cons (ps_set (i := 1) sc_l_pairs_told.nd rfl (by first | exact Or.inl rfl | exact Or.inr rfl) (pe_lst pa_nil))
      (pss_cons (ps_for PassesOwn.never rfl (pi_range1 (by rfl) T.b_range (pa_cons (pe_propP (K := K) (E := fun _ => E0) (pv 0) C_Name_depth (hr.mono (by decide)) (bs_0 (n := 1) (ks := []) (js := [0]) (fun _ _ _ _ _ _ us ws h1 h2 => match us, ws, h1, h2 with | [_], [], _, _ => rfl))) pa_nil)) (pg_name (i := 2) sc_l_pairs_told.nd rfl (by first | exact Or.inl rfl | exact Or.inr rfl))
      (pss_cons (ps_expr (pe_bmK (K := K) PySem.F.plainAttrs_list PySem.F.slot_list_append PySem.F.type_list_append mt_append (pv 1) (pa_cons (pe_callTy (call_listA (K := K)) (by rfl) T.b_list (by decide +kernel) (pa_cons (pe_propP (K := K) (E := fun _ => E0) (pv 0) C_Name_pairs (hr.mono (by decide)) (bs_0 (n := 1) (ks := []) (js := [0]) (fun _ _ _ _ _ _ us ws h1 h2 => match us, ws, h1, h2 with | [_], [], _, _ => rfl))) pa_nil)) pa_nil)))
      (pss_one (ps_set (i := 0) sc_l_pairs_told.nd rfl (by first | exact Or.inl rfl | exact Or.inr rfl) (pe_propP (K := K) (E := fun _ => E0) (pv 0) C_Name_parent (hr.mono (by decide)) (bs_0 (n := 1) (ks := []) (js := [0]) (fun _ _ _ _ _ _ us ws h1 h2 => match us, ws, h1, h2 with | [_], [], _, _ => rfl)))))))
      (pss_one (ps_ret (pv 1))))), ?_⟩)
  exact (t_seq (t_asg (d_cell (c_lst s_nil)) (g_name 1))
      (t_seq (t_for (i_range1 (s_cons (d_propP T.G T.p_Name_depth (d_var 0)) s_nil)) (g_name 2) (t_seq (t_drop (d_app (d_var 1) (d_fz (c_cb cc_list (s_cons (d_propP T.G T.p_Name_pairs (d_var 0)) s_nil)))))
      (t_asg (d_propP T.G T.p_Name_parent (d_var 0)) (g_name 0))))
      (t_ret (d_var 1))))
/-! ### _law_one_right -/
-- slots: 0 _law_line_here, 1 _law_told, 2 _law_leaves
abbrev N_l_one_right : List Str := ["_law_line_here", "_law_told", "_law_leaves"]
theorem sc_l_one_right : FnScope N_l_one_right ["_law_line_here"] (defScope s_l_one_right) := ⟨rfl, rfl, rfl, by decide +kernel, rfl, by decide +kernel, by decide +kernel⟩
def b_l_one_right : MS := (sSeq (sPar 1 2 (mCons (mCall m_l_read (mCons (mVar 0) mNil)) (mCons (mCall m_l_name (mCons (mVar 0) mNil)) mNil)))
    (sSeq (sIf (mTest (mOp dIs (mVar 2) (mC D.non))) (sRet (mOp dIs (mVar 1) (mC D.non))) sNext)
    (sSeq (sIf (mOr (mNot (mTest (mCb (dIsiC ctab) (mCons (mVar 1) (mCons (mC (D.cls "Name")) mNil))))) (mTest (mOp dNe (mCall m_l_pairs_told (mCons (mVar 1) mNil)) (mVar 2)))) (sRet (mC (D.bl false))) sNext)
    (sRet (mAndV (mOp dEq (mPropP ctab ["Name"] m_Name_text (mVar 1)) (mVar 0)) (mAndV (mOp dEq (mCall m_l_line (mCons (mVar 2) mNil)) (mVar 0)) (mOp dEq (mPropP ctab ["Name"] m_Name_normal (mVar 1)) (mCall m_l_low_line (mCons (mVar 2) mNil)))))))))
def m_l_one_right : List D → Store → Rs D := fnK 1 2 b_l_one_right
theorem c_l_one_right (T : Tx K mg) : Cal P w K mg base 10 "_law_one_right" ["_law_line_here"] (modSp K m_l_one_right) := by
  have C_l_name := c_l_name (P := P) (w := w) (base := base) T
  have C_l_read := c_l_read (P := P) (w := w) (base := base) T
  have C_l_pairs_told := c_l_pairs_told (P := P) (w := w) (base := base) T
  have C_Name_normal := c_Name_normal (P := P) (w := w) (base := base) T
  have C_l_low_line := c_l_low_line (P := P) (w := w) (base := base) T
  have C_l_line := c_l_line (P := P) (w := w) (base := base) T
  have C_Name_text := c_Name_text (P := P) (w := w) (base := base) T
  refine cal_K (body := b_l_one_right) (nl := 2) T.d_l_one_right sc_l_one_right rfl (fun _ _ _ _ _ _ us hl => match us, hl with | [_], _ => rfl) (fun f cdv A outer s H E hr => ⟨_, (pss_cons (ps_par (i := 1) (j := 2) (by rfl) sc_l_one_right.nd rfl rfl (by decide) rfl rfl (pa_cons (pe_callC C_l_read (hr.mono (by decide)) (by rfl) (pa_cons (pv 0) pa_nil)) (pa_cons (pe_callC C_l_name (hr.mono (by decide)) (by rfl) (pa_cons (pv 0) pa_nil)) pa_nil)) (by rfl))
      (pss_cons (ps_if (pt_cmpR cm_Is (pv 2) pe_non (nomark _)) (pss_one (ps_ret (pe_cmpR cm_Is (pv 1) pe_non (nomark _)))) pss_nil)
      (pss_cons (ps_if (PW.pt (pw_or (pt_not (pt_val (pe_callB (call_isiA (K := K)) (by rfl) T.b_isinstance (by decide +kernel) (pa_cons (pv 1) (pa_cons (pe_globR (by rfl) T.k_Name) pa_nil))))) (pw_or1 (pt_cmpR (cm_NotEq (K := K) hr.units) (pe_callC C_l_pairs_told (hr.mono (by decide)) (by rfl) (pa_cons (pv 1) pa_nil)) (pv 2) (nomark _))))) (pss_one (ps_ret pe_bl)) pss_nil)
      (pss_one (ps_ret (pe_and (pe_cmpR (cm_Eq (K := K) hr.units) (pe_propP (K := K) (E := fun _ => E0) (pv 1) C_Name_text (hr.mono (by decide)) (bs_0 (n := 1) (ks := []) (js := [0]) (fun _ _ _ _ _ _ us ws h1 h2 => match us, ws, h1, h2 with | [_], [], _, _ => rfl))) (pv 0) (nomark _)) (pe_and (pe_cmpR (cm_Eq (K := K) hr.units) (pe_callC C_l_line (hr.mono (by decide)) (by rfl) (pa_cons (pv 2) pa_nil)) (pv 0) (nomark _)) (pe_one (pe_cmpR (cm_Eq (K := K) hr.units) (pe_propP (K := K) (E := fun _ => E0) (pv 1) C_Name_normal (hr.mono (by decide)) (bs_0 (n := 1) (ks := []) (js := [0]) (fun _ _ _ _ _ _ us ws h1 h2 => match us, ws, h1, h2 with | [_], [], _, _ => rfl))) (pe_callC C_l_low_line (hr.mono (by decide)) (by rfl) (pa_cons (pv 2) pa_nil)) (nomark _)))))))))), ?_⟩)
  exact (t_seq (t_par (s_cons (d_call (s_cons (d_var 0) s_nil)) (s_cons (d_call (s_cons (d_var 0) s_nil)) s_nil)))
      (t_seq (t_if (b_test (d_op od_is (d_var 2) d_non)) (t_ret (d_op od_is (d_var 1) d_non)) t_next)
      (t_seq (t_if (b_or (b_not (b_B (d_cb (cd_isiC T.G) (s_cons (d_var 1) (s_cons d_cls s_nil))))) (b_test (d_op od_ne (d_call (s_cons (d_var 1) s_nil)) (d_var 2)))) (t_ret d_bl) t_next)
      (t_ret (d_andV (d_op od_eq (d_propP T.G T.p_Name_text (d_var 1)) (d_var 0)) (d_andV (d_op od_eq (d_call (s_cons (d_var 2) s_nil)) (d_var 0)) (d_op od_eq (d_propP T.G T.p_Name_normal (d_var 1)) (d_call (s_cons (d_var 2) s_nil)))))))))
/-! ### law -/
-- slots: 0 _law_script, 1 _law_source_here, 2 _law_some, 3 _law_turn, 4 _law_good, 5 _law_line_here, 6 _law_between, 7 _law_one, 8 _law_two, 9 _law_due
abbrev N_law : List Str := ["_law_script", "_law_source_here", "_law_some", "_law_turn", "_law_good", "_law_line_here", "_law_between", "_law_one", "_law_two", "_law_due"]
theorem sc_law : FnScope N_law ["_law_script"] (defScope s_law) := ⟨rfl, rfl, rfl, by decide +kernel, rfl, by decide +kernel, by decide +kernel⟩
def le_law_1 : Mo D := (mCall m_l_drawn (mCons (mVar 1) mNil))
def le_law_2 : Mo D := (mVar 5)
def lt_law_3 : Mo Bool := (mTest (mOp dIsn (mCall m_l_name (mCons (mVar 5) mNil)) (mC D.non)))
def lb_law_4 : MS := (sIf (mNot (mTest (mCall m_l_one_right (mCons (mVar 5) mNil)))) (sRet (mC (D.bl false))) sNext)
def le_law_5 : Mo D := (mVar 5)
def lt_law_6 : Mo Bool := (mTest (mOp dIsn (mCall m_l_name (mCons (mVar 5) mNil)) (mC D.non)))
def lb_law_7 : MS := (sSeq (sAsg (mEqA ctab false eqTab (mCall m_l_low_line (mCons (mCall m_l_name (mCons (mVar 7) mNil)) mNil)) (mCall m_l_low_line (mCons (mCall m_l_name (mCons (mVar 8) mNil)) mNil))) (tgName 9))
    (sIf (mOr (mTest (mEqA ctab true eqTab (mEqA ctab false eqTab (mMakeP false "Name" m_Name___init 1 0 [0, 1] [D.str []] (mC (D.cls "Name")) (mCons (mVar 7) mNil) mNil) (mMakeP false "Name" m_Name___init 1 0 [0, 1] [D.str []] (mC (D.cls "Name")) (mCons (mVar 8) mNil) mNil)) (mVar 9))) (mTest (mEqA ctab true eqTab (mEqA ctab false eqTab (mPropP ctab ["Name"] m_Name_normal (mMakeP false "Name" m_Name___init 1 0 [0, 1] [D.str []] (mC (D.cls "Name")) (mCons (mVar 7) mNil) mNil)) (mPropP ctab ["Name"] m_Name_normal (mMakeP false "Name" m_Name___init 1 0 [0, 1] [D.str []] (mC (D.cls "Name")) (mCons (mVar 8) mNil) mNil))) (mVar 9)))) (sRet (mC (D.bl false))) sNext))
def lb_law_8 : MS := (sFor (mIter (mVar 4)) (tgName 8) lb_law_7)
def lb_law_9 : MS := (sSeq (sAsg (mFz (mLc (mRange1 (mCons (mC (D.int 6)) mNil)) (tgName 3) (mC true) le_law_1 [3])) (tgName 2))
    (sSeq (sAsg (mFz (mLc (mIter (mVar 2)) (tgName 5) lt_law_3 le_law_2 [5])) (tgName 4))
    (sSeq (sIf (mTest (mOp dGt (mCb dLen (mCons (mVar 4) mNil)) (mC (D.int 1)))) (sSeq (sAsg (mCall m_l_pick (mCons (mVar 1) (mCons (mFz (mLst (mCons (mC (D.str [44])) (mCons (mC (D.str [43])) (mCons (mC (D.str [])) (mCons (mC (D.str [44, 32])) (mCons (mC (D.str [61])) mNil))))))) mNil))) (tgName 6))
    (sAsg (mOp dAdd (mVar 2) (mFz (mLst (mCons (mOp dAdd (mOp dAdd (mOp dIx (mVar 4) (mC (D.int 0))) (mVar 6)) (mOp dIx (mVar 4) (mNeg (mC (D.int 1))))) (mCons (mOp dAdd (mOp dAdd (mOp dIx (mVar 4) (mNeg (mC (D.int 1)))) (mVar 6)) (mOp dIx (mVar 4) (mC (D.int 0)))) mNil))))) (tgName 2))) sNext)
    (sSeq (sFor (mIter (mVar 2)) (tgName 5) lb_law_4)
    (sSeq (sAsg (mFz (mLc (mIter (mVar 2)) (tgName 5) lt_law_6 le_law_5 [5])) (tgName 4))
    (sFor (mIter (mVar 4)) (tgName 7) lb_law_8))))))
def b_law : MS := (sSeq (sFor (mIter (mCall m_l_rounds (mCons (mVar 0) (mCons (mC (D.int 8)) mNil)))) (tgName 1) lb_law_9)
    (sRet (mC (D.bl true))))
theorem c_law (T : Tx K mg) {f : Addr} {fd : FuncData} (F : FunD K "law" "law" (defArgs s_law) (defBody s_law) (defScope s_law) [] [] f fd) (hm : ∀ ns : List Int, ns.length ≤ 63 → ∃ μ', b_law (some (.wl (ns.map D.int)) :: List.replicate 9 none) [] = .rt (.bl true) μ') : FnOk P w K mg base CX0 11 f fd ["_law_script"] (sp_lawM K) := by
  have C_l_rounds := c_l_rounds (P := P) (w := w) (base := base) T
  have C_l_drawn := c_l_drawn (P := P) (w := w) (base := base) T
  have C_l_name := c_l_name (P := P) (w := w) (base := base) T
  have C_l_pick := c_l_pick (P := P) (w := w) (base := base) T
  have C_l_one_right := c_l_one_right (P := P) (w := w) (base := base) T
  have C_Name___eq := c_Name___eq (P := P) (w := w) (base := base) T
  have C_l_low_line := c_l_low_line (P := P) (w := w) (base := base) T
  have C_Name_normal := c_Name_normal (P := P) (w := w) (base := base) T
  have C_Name___init := c_Name___init (P := P) (w := w) (base := base) T
  refine law_M F sc_law rfl (fun cdv A outer s H E hr => ⟨_, (pss_cons (ps_for PassesOwn.never rfl (pi_any (K := K) (pe_callC C_l_rounds (hr.mono (by decide)) (by rfl) (pa_cons (pv 0) (pa_cons pe_int pa_nil)))) (pg_name (i := 1) sc_law.nd rfl (by first | exact Or.inl rfl | exact Or.inr rfl))
      (pss_cons (ps_setLc (i := 2) (own := [("_law_turn", 3)]) (by rfl) sc_law.nd rfl rfl (sw_true rfl rfl rfl (by decide +kernel)) (pi_range1 (by rfl) T.b_range (pa_cons pe_int pa_nil)) (blkOk_by (own := [("_law_turn", 3)]) (N := N_law) (sc := defScope s_law) (by decide +kernel)) (fun _ _ _ _ _ => (pg_name (i := 3) sc_law.nd rfl (by first | exact Or.inl rfl | exact Or.inr rfl))) (fun _ _ _ _ _ => pts_nil) (fun _ _ _ _ _ => (pe_callC C_l_drawn (hr.mono (by decide)) (by rfl) (pa_cons (pv 1) pa_nil))))
      (pss_cons (ps_setLc (i := 4) (own := [("_law_line_here", 5)]) (by rfl) sc_law.nd rfl rfl (sw_true rfl rfl rfl (by decide +kernel)) (pi_any (K := K) (pv 2)) (blkOk_by (own := [("_law_line_here", 5)]) (N := N_law) (sc := defScope s_law) (by decide +kernel)) (fun _ _ _ _ _ => (pg_name (i := 5) sc_law.nd rfl (by first | exact Or.inl rfl | exact Or.inr rfl))) (fun _ _ _ _ _ => (pts_one (pt_cmpR cm_IsNot (pe_callC C_l_name (hr.mono (by decide)) (by rfl) (pa_cons (pv 5) pa_nil)) pe_non (nomark _)))) (fun _ _ _ _ _ => (pv 5)))
      (pss_cons (ps_if (pt_cmpR cm_Gt (pe_callB (call_lenA (K := K)) (by rfl) T.b_len (by decide +kernel) (pa_cons (pv 4) pa_nil)) pe_int (nomark _)) (pss_cons (ps_set (i := 6) sc_law.nd rfl (by first | exact Or.inl rfl | exact Or.inr rfl) (pe_callC C_l_pick (hr.mono (by decide)) (by rfl) (pa_cons (pv 1) (pa_cons (pe_lst (pa_cons pe_str (pa_cons pe_str (pa_cons pe_str (pa_cons pe_str (pa_cons pe_str pa_nil)))))) pa_nil))))
      (pss_one (ps_set (i := 2) sc_law.nd rfl (by first | exact Or.inl rfl | exact Or.inr rfl) (pe_op (op_Add (K := K)) (pv 2) (pe_lst (pa_cons (pe_op (op_Add (K := K)) (pe_op (op_Add (K := K)) (pe_ix (ix_any (K := K)) (pv 4) pe_int (fun _ _ => rfl)) (pv 6)) (pe_ix (ix_any (K := K)) (pv 4) (pe_un un_neg pe_int) (fun _ _ => rfl))) (pa_cons (pe_op (op_Add (K := K)) (pe_op (op_Add (K := K)) (pe_ix (ix_any (K := K)) (pv 4) (pe_un un_neg pe_int) (fun _ _ => rfl)) (pv 6)) (pe_ix (ix_any (K := K)) (pv 4) pe_int (fun _ _ => rfl))) pa_nil))))))) pss_nil)
      (pss_cons (ps_for PassesOwn.never rfl (pi_any (K := K) (pv 2)) (pg_name (i := 5) sc_law.nd rfl (by first | exact Or.inl rfl | exact Or.inr rfl))
      (pss_one (ps_if (pt_not (pt_val (pe_callC C_l_one_right (hr.mono (by decide)) (by rfl) (pa_cons (pv 5) pa_nil)))) (pss_one (ps_ret pe_bl)) pss_nil)))
      (pss_cons (ps_setLc (i := 4) (own := [("_law_line_here", 5)]) (by rfl) sc_law.nd rfl rfl (sw_true rfl rfl rfl (by decide +kernel)) (pi_any (K := K) (pv 2)) (blkOk_by (own := [("_law_line_here", 5)]) (N := N_law) (sc := defScope s_law) (by decide +kernel)) (fun _ _ _ _ _ => (pg_name (i := 5) sc_law.nd rfl (by first | exact Or.inl rfl | exact Or.inr rfl))) (fun _ _ _ _ _ => (pts_one (pt_cmpR cm_IsNot (pe_callC C_l_name (hr.mono (by decide)) (by rfl) (pa_cons (pv 5) pa_nil)) pe_non (nomark _)))) (fun _ _ _ _ _ => (pv 5)))
      (pss_one (ps_for PassesOwn.never rfl (pi_any (K := K) (pv 4)) (pg_name (i := 7) sc_law.nd rfl (by first | exact Or.inl rfl | exact Or.inr rfl))
      (pss_one (ps_for PassesOwn.never rfl (pi_any (K := K) (pv 4)) (pg_name (i := 8) sc_law.nd rfl (by first | exact Or.inl rfl | exact Or.inr rfl))
      (pss_cons (ps_set (i := 9) sc_law.nd rfl (by first | exact Or.inl rfl | exact Or.inr rfl) (pe_cmpR (cm_EqA (K := K) (f_eq (P := P) (w := w) (base := base) T) (hr.mono (by decide))) (pe_callC C_l_low_line (hr.mono (by decide)) (by rfl) (pa_cons (pe_callC C_l_name (hr.mono (by decide)) (by rfl) (pa_cons (pv 7) pa_nil)) pa_nil)) (pe_callC C_l_low_line (hr.mono (by decide)) (by rfl) (pa_cons (pe_callC C_l_name (hr.mono (by decide)) (by rfl) (pa_cons (pv 8) pa_nil)) pa_nil)) (nomark _)))
      (pss_one (ps_if (PW.pt (pw_or (pt_cmpR (cm_NeA (K := K) (f_eq (P := P) (w := w) (base := base) T) (hr.mono (by decide))) (pe_cmpR (cm_EqA (K := K) (f_eq (P := P) (w := w) (base := base) T) (hr.mono (by decide))) (pe_makeP (E := fun _ => E0) T.mk_Name C_Name___init (hr.mono (by decide)) (bs_D (n := 2) (ks := []) (js := [0, 1]) (fun z => nomatch z) (fun T _ _ _ _ _ _ us its ws h1 h2 h3 => match us, its, ws, h1, h2, h3 with | [_, _], [_], [], _, _, _ => ⟨_, rfl, rfl⟩)) passX0 (pe_globR (by rfl) T.k_Name) (pa_cons (pv 7) pa_nil) pk_nil) (pe_makeP (E := fun _ => E0) T.mk_Name C_Name___init (hr.mono (by decide)) (bs_D (n := 2) (ks := []) (js := [0, 1]) (fun z => nomatch z) (fun T _ _ _ _ _ _ us its ws h1 h2 h3 => match us, its, ws, h1, h2, h3 with | [_, _], [_], [], _, _, _ => ⟨_, rfl, rfl⟩)) passX0 (pe_globR (by rfl) T.k_Name) (pa_cons (pv 8) pa_nil) pk_nil) (nomark _)) (pv 9) (nomark _)) (pw_or1 (pt_cmpR (cm_NeA (K := K) (f_eq (P := P) (w := w) (base := base) T) (hr.mono (by decide))) (pe_cmpR (cm_EqA (K := K) (f_eq (P := P) (w := w) (base := base) T) (hr.mono (by decide))) (pe_propP (K := K) (E := fun _ => E0) (pe_makeP (E := fun _ => E0) T.mk_Name C_Name___init (hr.mono (by decide)) (bs_D (n := 2) (ks := []) (js := [0, 1]) (fun z => nomatch z) (fun T _ _ _ _ _ _ us its ws h1 h2 h3 => match us, its, ws, h1, h2, h3 with | [_, _], [_], [], _, _, _ => ⟨_, rfl, rfl⟩)) passX0 (pe_globR (by rfl) T.k_Name) (pa_cons (pv 7) pa_nil) pk_nil) C_Name_normal (hr.mono (by decide)) (bs_0 (n := 1) (ks := []) (js := [0]) (fun _ _ _ _ _ _ us ws h1 h2 => match us, ws, h1, h2 with | [_], [], _, _ => rfl))) (pe_propP (K := K) (E := fun _ => E0) (pe_makeP (E := fun _ => E0) T.mk_Name C_Name___init (hr.mono (by decide)) (bs_D (n := 2) (ks := []) (js := [0, 1]) (fun z => nomatch z) (fun T _ _ _ _ _ _ us its ws h1 h2 h3 => match us, its, ws, h1, h2, h3 with | [_, _], [_], [], _, _, _ => ⟨_, rfl, rfl⟩)) passX0 (pe_globR (by rfl) T.k_Name) (pa_cons (pv 8) pa_nil) pk_nil) C_Name_normal (hr.mono (by decide)) (bs_0 (n := 1) (ks := []) (js := [0]) (fun _ _ _ _ _ _ us ws h1 h2 => match us, ws, h1, h2 with | [_], [], _, _ => rfl))) (nomark _)) (pv 9) (nomark _))))) (pss_one (ps_ret pe_bl)) pss_nil)))))))))))))
      (pss_one (ps_ret pe_bl))), ?_⟩) hm
  exact (t_seq (t_for (i_any (d_call (s_cons (d_var 0) (s_cons d_int s_nil)))) (g_name 1) (t_seq (t_asg (d_fz (c_lc (vs := [3]) (i_range1 (s_cons d_int s_nil)) (g_name 3) (by decide) b_yes (d_call (s_cons (d_var 1) s_nil)))) (g_name 2))
      (t_seq (t_asg (d_fz (c_lc (vs := [5]) (i_any (d_var 2)) (g_name 5) (by decide) (b_test (d_op od_isn (d_call (s_cons (d_var 5) s_nil)) d_non)) (d_var 5))) (g_name 4))
      (t_seq (t_if (b_test (d_op od_gt (d_cb cd_len (s_cons (d_var 4) s_nil)) d_int)) (t_seq (t_asg (d_call (s_cons (d_var 1) (s_cons (d_fz (c_lst (s_cons (d_str [44] (by decide +kernel)) (s_cons (d_str [43] (by decide +kernel)) (s_cons (d_str [] (by decide +kernel)) (s_cons (d_str [44, 32] (by decide +kernel)) (s_cons (d_str [61] (by decide +kernel)) s_nil))))))) s_nil))) (g_name 6))
      (t_asg (d_op od_add (d_var 2) (d_fz (c_lst (s_cons (d_op od_add (d_op od_add (d_op od_ix (d_var 4) d_int) (d_var 6)) (d_op od_ix (d_var 4) (d_neg d_int))) (s_cons (d_op od_add (d_op od_add (d_op od_ix (d_var 4) (d_neg d_int)) (d_var 6)) (d_op od_ix (d_var 4) d_int)) s_nil))))) (g_name 2))) t_next)
      (t_seq (t_for (i_any (d_var 2)) (g_name 5) (t_if (b_not (b_B (d_call (s_cons (d_var 5) s_nil)))) (t_ret d_bl) t_next))
      (t_seq (t_asg (d_fz (c_lc (vs := [5]) (i_any (d_var 2)) (g_name 5) (by decide) (b_test (d_op od_isn (d_call (s_cons (d_var 5) s_nil)) d_non)) (d_var 5))) (g_name 4))
      (t_for (i_any (d_var 4)) (g_name 7) (t_for (i_any (d_var 4)) (g_name 8) (t_seq (t_asg (d_eqA T.G (o_eq T) (d_call (s_cons (d_call (s_cons (d_var 7) s_nil)) s_nil)) (d_call (s_cons (d_call (s_cons (d_var 8) s_nil)) s_nil))) (g_name 9))
      (t_if (b_or (b_test (d_neA T.G (o_eq T) (d_eqA T.G (o_eq T) (d_makeY (fun A M H => show RepL K A M H [V.str ""] [D.str []] from ⟨_, _, rfl, congrArg V.str (by decide +kernel), rfl⟩) d_cls (s_cons (d_var 7) s_nil) s_nil) (d_makeY (fun A M H => show RepL K A M H [V.str ""] [D.str []] from ⟨_, _, rfl, congrArg V.str (by decide +kernel), rfl⟩) d_cls (s_cons (d_var 8) s_nil) s_nil)) (d_var 9))) (b_test (d_neA T.G (o_eq T) (d_eqA T.G (o_eq T) (d_propP T.G T.p_Name_normal (d_makeY (fun A M H => show RepL K A M H [V.str ""] [D.str []] from ⟨_, _, rfl, congrArg V.str (by decide +kernel), rfl⟩) d_cls (s_cons (d_var 7) s_nil) s_nil)) (d_propP T.G T.p_Name_normal (d_makeY (fun A M H => show RepL K A M H [V.str ""] [D.str []] from ⟨_, _, rfl, congrArg V.str (by decide +kernel), rfl⟩) d_cls (s_cons (d_var 8) s_nil) s_nil))) (d_var 9)))) (t_ret d_bl) t_next))))))))))
      (t_ret d_bl))
end
end My
namespace My
open PySem PySem.Spec PyProof.Rows L2
section
variable {P : Program} [hP : OkP fileS P] {w : World} {K : PySem.W.Frag} {mg : Str → Option Value} {base : Heap}
/-! ### what the models of normal forms tell -/
theorem p_escaped {l : Codes} {μ : Store} (h : l.length ≤ 20000) : m_escaped [.str l] μ = .ok (.str (escL l)) μ := mTxt_eq (decide_eq_true h)
theorem p_plain_text {l : Codes} {μ : Store} (h : okT l = true) : m_plain_text [.str l] μ = .ok (.str (plainL l)) μ := mTxt_eq h
theorem p_read_name {l : Codes} {μ : Store} (h : okT l = true) : m_read_name [.str l] μ = .ok (nameD (lawName l)) μ := mTxt_eq h
theorem p_le_leaf {q : Pair} {x : Option D} {μ : Store} (h1 : q.1.length ≤ 20) (h2 : q.2.length ≤ 100) : le_leaf_text_1 [x, some (.str q.1), some (.str q.2)] μ = .ok (.str (pairL q)) μ := by
  have h3 := escL_len q.2
  unfold le_leaf_text_1
  simp only [fnK, fnKX, mOp, mVar, mC, mCall, mCallK, mCons, mNil, mTest, mNot, mAnd, mOr, mAndV, mOrV, mNotV, mNeg, mIf, mTup, mLst, mFz, mCell, mCat, mCb, mCc, mBm, mBc, mSl, mPart, mNoP, mChain, mIter, mRange1, mRange2, mEnum, mApp, mPop, Option.isSome_some, mLc, sSeq, sIf, sRet, sDrop, sAsg, sPar, sPar3, sFor, sWhile, sNext, sRetN, sSetIx, Rs.bind, Rs.of, isStr, tgName, tgT, tgCons, tgNil, wipeE, itemsOf, asL, asS, asQ, dAdd, dSub, dMul, dMod, dDiv, dPow, dLt, dLe, dGt, dGe, dEq, dNe, bEq, dIn, dNi, dIs, dIsn, bIs, isNon, dIx, dSl, dLen, dInt, dAll, dAny, dSum, dMax, dMin, dIsi, dIsiC, dSlV, dLtA, clsOf, mRev, mXfld, Rs.nr, sRetX, sDropX, sAsgX, sRaise, sTryAs, dTuple, lList, dStrip, dLower, dUpper, dFind, dRemPre, lSplit, dJoin, strsOf_map, blsOf_map, intsOf_map, List.length_cons, List.length_nil, List.map_cons, List.map_nil, List.replicate, List.cons_append, List.nil_append, List.append_nil, List.getElem?_cons_zero, List.getElem?_cons_succ, List.set_cons_zero, List.set_cons_succ, Option.map_some, Option.map_none, Option.bind_some, Nat.reduceAdd, if_true, if_false, Bool.false_eq_true, Bool.not_true, Bool.not_false, reduceIte, reduceCtorEq, p_escaped (show q.2.length ≤ 20000 by omega)]
  rw [if_pos (by simp; omega)]
  simp only [fnK, fnKX, mOp, mVar, mC, mCall, mCallK, mCons, mNil, mTest, mNot, mAnd, mOr, mAndV, mOrV, mNotV, mNeg, mIf, mTup, mLst, mFz, mCell, mCat, mCb, mCc, mBm, mBc, mSl, mPart, mNoP, mChain, mIter, mRange1, mRange2, mEnum, mApp, mPop, Option.isSome_some, mLc, sSeq, sIf, sRet, sDrop, sAsg, sPar, sPar3, sFor, sWhile, sNext, sRetN, sSetIx, Rs.bind, Rs.of, isStr, tgName, tgT, tgCons, tgNil, wipeE, itemsOf, asL, asS, asQ, dAdd, dSub, dMul, dMod, dDiv, dPow, dLt, dLe, dGt, dGe, dEq, dNe, bEq, dIn, dNi, dIs, dIsn, bIs, isNon, dIx, dSl, dLen, dInt, dAll, dAny, dSum, dMax, dMin, dIsi, dIsiC, dSlV, dLtA, clsOf, mRev, mXfld, Rs.nr, sRetX, sDropX, sAsgX, sRaise, sTryAs, dTuple, lList, dStrip, dLower, dUpper, dFind, dRemPre, lSplit, dJoin, strsOf_map, blsOf_map, intsOf_map, List.length_cons, List.length_nil, List.map_cons, List.map_nil, List.replicate, List.cons_append, List.nil_append, List.append_nil, List.getElem?_cons_zero, List.getElem?_cons_succ, List.set_cons_zero, List.set_cons_succ, Option.map_some, Option.map_none, Option.bind_some, Nat.reduceAdd, if_true, if_false, Bool.false_eq_true, Bool.not_true, Bool.not_false, reduceIte, reduceCtorEq]
  rw [if_pos (by simp; omega)]
  all_goals rfl
theorem p_leaf_text {x : D} {μ : Store} {ps : List Pair} (hx : itemsOf μ x = some (ps.map pairD, none)) (hs : shortP 100 ps) : m_leaf_text [x] μ = .ok (.str (leafLine ps)) μ := by
  have hl := hs.1
  have hlc : lcGo none (tgT 2 (tgCons (tgName 1) (tgCons (tgName 2) tgNil))) (mC true) le_leaf_text_1 [some x, none, none] (ps.map pairD) μ = .ok (ps.map fun q => .str (pairL q)) μ := lcGo_mapM pairD (fun q => .str (pairL q)) ps fun q hq => ⟨[some x, some (.str q.1), some (.str q.2)], rfl, rfl, p_le_leaf (hs.2 q hq).1 (hs.2 q hq).2⟩
  have h1 := sum_le (fun x : Codes => x.length) 300 (ps.map pairL) (fun x hx => by
    obtain ⟨a, ham, rfl⟩ := List.mem_map.mp hx
    have hl1 := hs.2 a ham
    have hl2 := escL_len a.2
    unfold pairL
    simp only [List.length_append, List.length_singleton]
    omega)
  rw [List.length_map] at h1
  have e2 : (ps.map fun q => D.str (pairL q)) = (ps.map pairL).map D.str := by rw [List.map_map]; rfl
  unfold m_leaf_text b_leaf_text
  simp only [fnK, mBm, mCons, mFz, mLc, mIter, mVar, mC, Rs.bind, Rs.of, sRet, isStr, List.length_cons, List.length_nil, List.map_cons, List.map_nil, List.replicate, List.cons_append, List.nil_append, List.getElem?_cons_zero, hx, wipeE, List.set_cons_succ, List.set_cons_zero, List.length_map, if_true]
  rw [if_pos (by omega), hlc, e2]
  simp only [dJoin, asQ, strsOf_map, mNil]
  rw [if_pos (by
    rw [List.length_map]
    simp only [List.length_cons, List.length_nil]
    omega)]
  rfl
theorem p_le_nleaf {q : Pair} {x : Option D} {μ : Store} (h2 : okT q.2 = true) : le_normal_leaf_1 [x, some (.str q.1), some (.str q.2)] μ = .ok (pairD (q.1, plainL q.2)) μ := by
  unfold le_normal_leaf_1
  simp only [fnK, fnKX, mOp, mVar, mC, mCall, mCallK, mCons, mNil, mTest, mNot, mAnd, mOr, mAndV, mOrV, mNotV, mNeg, mIf, mTup, mLst, mFz, mCell, mCat, mCb, mCc, mBm, mBc, mSl, mPart, mNoP, mChain, mIter, mRange1, mRange2, mEnum, mApp, mPop, Option.isSome_some, mLc, sSeq, sIf, sRet, sDrop, sAsg, sPar, sPar3, sFor, sWhile, sNext, sRetN, sSetIx, Rs.bind, Rs.of, isStr, tgName, tgT, tgCons, tgNil, wipeE, itemsOf, asL, asS, asQ, dAdd, dSub, dMul, dMod, dDiv, dPow, dLt, dLe, dGt, dGe, dEq, dNe, bEq, dIn, dNi, dIs, dIsn, bIs, isNon, dIx, dSl, dLen, dInt, dAll, dAny, dSum, dMax, dMin, dIsi, dIsiC, dSlV, dLtA, clsOf, mRev, mXfld, Rs.nr, sRetX, sDropX, sAsgX, sRaise, sTryAs, dTuple, lList, dStrip, dLower, dUpper, dFind, dRemPre, lSplit, dJoin, strsOf_map, blsOf_map, intsOf_map, List.length_cons, List.length_nil, List.map_cons, List.map_nil, List.replicate, List.cons_append, List.nil_append, List.append_nil, List.getElem?_cons_zero, List.getElem?_cons_succ, List.set_cons_zero, List.set_cons_succ, Option.map_some, Option.map_none, Option.bind_some, Nat.reduceAdd, if_true, if_false, Bool.false_eq_true, Bool.not_true, Bool.not_false, reduceIte, reduceCtorEq, p_plain_text h2]
  all_goals rfl
theorem p_normal_leaf {μ : Store} {ps : List Pair} (h : okLeaf ps) (ha : ∀ q ∈ ps, asc q.1 ∧ asc q.2) : m_normal_leaf [leafD ps] μ = .ok (.str (normLeaf ps)) μ := by
  have hl := h.1
  have hs := okPair_short (b := 100) (by decide) h
  have hT : ∀ q ∈ ps, okT q.2 = true := fun q hq => okT_iff.mpr ⟨(ha q hq).2, by have := (hs.2 q hq).2; omega⟩
  have hlc : lcGo none (tgT 2 (tgCons (tgName 1) (tgCons (tgName 2) tgNil))) (mC true) le_normal_leaf_1 [some (leafD ps), none, none] (ps.map pairD) μ = .ok (ps.map fun q => pairD (q.1, plainL q.2)) μ := lcGo_mapM pairD (fun q => pairD (q.1, plainL q.2)) ps fun q hq => ⟨[some (leafD ps), some (.str q.1), some (.str q.2)], rfl, rfl, p_le_nleaf (hT q hq)⟩
  have e2 : (ps.map fun q => pairD (q.1, plainL q.2)) = (lowP ps).map pairD := by unfold lowP; rw [List.map_map]; rfl
  have e3 : lSorted μ [.lst ((lowP ps).map pairD)] = some ((sortP (lowP ps)).map pairD) := by
    unfold lSorted sortP
    simp only [asS]
    rw [if_pos (by rw [List.all_map, List.all_eq_true]; exact fun q _ => rfl)]
    exact congrArg some (sortO_map (lt := fun a b : Pair => kyLt [a.1, a.2] [b.1, b.2]) (lt2 := fun a b => kyLt (kyD a) (kyD b)) pairD (fun x y => rfl) (lowP ps)).symm
  have hx : itemsOf μ (.lst ((sortP (lowP ps)).map pairD)) = some ((sortP (lowP ps)).map pairD, none) := rfl
  unfold m_normal_leaf b_normal_leaf
  simp only [fnK, mCall, mCc, mCons, mNil, mFz, mLc, mIter, mVar, Rs.bind, Rs.of, sRet, List.length_cons, List.length_nil, List.map_cons, List.map_nil, List.replicate, List.cons_append, List.nil_append, List.getElem?_cons_zero, wipeE, List.set_cons_succ, List.set_cons_zero, if_true]
  rw [show itemsOf μ (leafD ps) = some (ps.map pairD, none) from rfl]
  dsimp only
  rw [if_pos (by rw [List.length_map]; omega), hlc, e2]
  dsimp only
  rw [e3]
  dsimp only
  rw [p_leaf_text hx (sortP_short hs)]
  all_goals rfl

end
end My
namespace My
open PySem PySem.Spec PyProof.Rows L2
section
variable {P : Program} [hP : OkP fileS P] {w : World} {K : PySem.W.Frag} {mg : Str → Option Value} {base : Heap}
/-! ### drawing, by models -/
def srcC (c k d : Int) : Cell := .lst [.int c, .int k, .int d]
def Src (μ : Store) (j n : Nat) : Prop := ∃ c k d : Int, μ[j]? = some (srcC c k d) ∧ 0 ≤ k ∧ k + (n : Int) ≤ 1099511627776
def Drw (μ : Store) (j n : Nat) (μ' : Store) : Prop := ∃ c k d : Int, μ' = μ.set j (srcC c k d) ∧ j < μ.length ∧ 0 ≤ k ∧ k + (n : Int) ≤ 1099511627776
section
variable {μ μ' μ1 μ2 ν : Store} {j n m i : Nat}
theorem Src.lt (h : Src μ j n) : j < μ.length := by
  obtain ⟨c, k, d, h, _⟩ := h
  exact (List.getElem?_eq_some_iff.mp h).1
theorem Src.cell (h : Src μ j n) : ∃ c k d : Int, cellOf μ j = some [.int c, .int k, .int d] ∧ 0 ≤ k ∧ k + (n : Int) ≤ 1099511627776 := by
  obtain ⟨c, k, d, h, h1, h2⟩ := h
  exact ⟨c, k, d, by unfold cellOf; rw [h]; rfl, h1, h2⟩
theorem cellOf_set {xs : List D} (h : j < μ.length) : cellOf (μ.set j (.lst xs)) j = some xs := by
  unfold cellOf
  rw [List.getElem?_set_self h]
theorem Drw.src (h : Drw μ j n μ') : Src μ' j n := by
  obtain ⟨c, k, d, rfl, hj, h1, h2⟩ := h
  exact ⟨c, k, d, List.getElem?_set_self hj, h1, h2⟩
theorem Drw.trans (h : Drw μ j n μ1) (g : Drw μ1 j m μ2) : Drw μ j m μ2 := by
  obtain ⟨c, k, d, rfl, hj, h1, h2⟩ := h
  obtain ⟨c', k', d', rfl, hj', g1, g2⟩ := g
  exact ⟨c', k', d', by rw [List.set_set], hj, g1, g2⟩
theorem Drw.less (h : Drw μ j n μ') (hm : m ≤ n) : Drw μ j m μ' := by
  obtain ⟨c, k, d, e, hj, h1, h2⟩ := h
  exact ⟨c, k, d, e, hj, h1, by omega⟩
theorem Src.less (h : Src μ j n) (hm : m ≤ n) : Src μ j m := by
  obtain ⟨c, k, d, e, h1, h2⟩ := h
  exact ⟨c, k, d, e, h1, by omega⟩
theorem Src.refl (h : Src μ j n) : Drw μ j n μ := by
  obtain ⟨c, k, d, e, h1, h2⟩ := h
  obtain ⟨hl, e2⟩ := List.getElem?_eq_some_iff.mp e
  exact ⟨c, k, d, by rw [← e2, List.set_getElem_self], hl, h1, h2⟩
theorem Drw.len (h : Drw μ j n μ') : μ'.length = μ.length := by
  obtain ⟨c, k, d, rfl, _⟩ := h
  exact List.length_set
theorem Drw.get (h : Drw μ j n μ') (hi : j ≠ i) : μ'[i]? = μ[i]? := by
  obtain ⟨c, k, d, rfl, _⟩ := h
  exact List.getElem?_set_ne hi
theorem Drw.cell (h : Drw μ j n μ') (hi : j ≠ i) : cellOf μ' i = cellOf μ i := by
  unfold cellOf
  rw [h.get hi]
theorem Src.app (h : Src μ j n) : Src (μ ++ ν) j n := by
  obtain ⟨c, k, d, e, h1, h2⟩ := h
  exact ⟨c, k, d, by rw [List.getElem?_append_left (List.getElem?_eq_some_iff.mp e).1]; exact e, h1, h2⟩
theorem Drw.app (h : Drw (μ ++ ν) j n μ') (hj : j < μ.length) : ∃ μ1, μ' = μ1 ++ ν ∧ Drw μ j n μ1 := by
  obtain ⟨c, k, d, rfl, _, h1, h2⟩ := h
  exact ⟨μ.set j (srcC c k d), List.set_append_left _ _ hj, c, k, d, rfl, hj, h1, h2⟩
end
theorem at3_0 {a b c : D} : atI [a, b, c] 0 = some a := rfl
theorem at3_1 {a b c : D} : atI [a, b, c] 1 = some b := rfl
theorem at3_2 {a b c : D} : atI [a, b, c] 2 = some c := rfl
def primesL : List Int := [2147483647, 2147483629, 2147483587, 2147483579, 2147483563, 2147483549, 2147483543, 2147483497, 2147483489, 2147483477, 2147483423]
theorem primes_at {k : Int} : ∃ p : Int, atI (primesL.map D.int) (k % 11) = some (.int p) ∧ 2147483423 ≤ p ∧ p ≤ 2147483647 := by
  have h0 : 0 ≤ k % 11 := Int.emod_nonneg _ (by decide)
  have h1 : k % 11 < 11 := Int.emod_lt_of_pos _ (by decide)
  obtain ⟨x, hx, hx2⟩ := atI_mem (xs := primesL.map D.int) h0 (by exact h1)
  obtain ⟨p, hp, rfl⟩ := List.mem_map.mp (List.mem_of_getElem? hx2)
  refine ⟨p, hx, ?_⟩
  simp only [primesL, List.mem_cons, List.not_mem_nil, or_false] at hp
  rcases hp with rfl | rfl | rfl | rfl | rfl | rfl | rfl | rfl | rfl | rfl | rfl <;> exact ⟨by decide, by decide⟩
theorem p_next {μ : Store} {j n : Nat} {many : Int} (hs : Src μ j (n + 1)) (h0 : 0 < many) (h1 : many < 1073741824) : ∃ r μ', m_l_next [.ref j, .int many] μ = .ok (.int r) μ' ∧ (0 ≤ r ∧ r < many) ∧ Drw μ j n μ' := by
  have hj := hs.lt
  obtain ⟨c, k, d, hc, hk0, hk1⟩ := hs.cell
  have hdiv : (0 < many ∧ (many < 1073741824 ∨ many.natAbs.log2 < 9000)) := ⟨h0, .inl h1⟩
  unfold m_l_next b_l_next
  by_cases hd : 0 < d
  · refine ⟨d % many, μ.set j (srcC c k (d / many)), ?_, ⟨Int.emod_nonneg _ (by omega), Int.emod_lt_of_pos _ h0⟩, c, k, d / many, rfl, hj, hk0, by omega⟩
    simp only [fnK, fnKX, mOp, mVar, mC, mCall, mCallK, mCons, mNil, mTest, mNot, mAnd, mOr, mAndV, mOrV, mNotV, mNeg, mIf, mTup, mLst, mFz, mCell, mCat, mCb, mCc, mBm, mBc, mSl, mPart, mNoP, mChain, mIter, mRange1, mRange2, mEnum, mApp, mPop, Option.isSome_some, mLc, sSeq, sIf, sRet, sDrop, sAsg, sPar, sPar3, sFor, sWhile, sNext, sRetN, sSetIx, Rs.bind, Rs.of, isStr, tgName, tgT, tgCons, tgNil, wipeE, itemsOf, asL, asS, asQ, dAdd, dSub, dMul, dMod, dDiv, dPow, dLt, dLe, dGt, dGe, dEq, dNe, bEq, dIn, dNi, dIs, dIsn, bIs, isNon, dIx, dSl, dLen, dInt, dAll, dAny, dSum, dMax, dMin, dIsi, dIsiC, dSlV, dLtA, clsOf, mRev, mXfld, Rs.nr, sRetX, sDropX, sAsgX, sRaise, sTryAs, dTuple, lList, dStrip, dLower, dUpper, dFind, dRemPre, lSplit, dJoin, strsOf_map, blsOf_map, intsOf_map, List.length_cons, List.length_nil, List.map_cons, List.map_nil, List.replicate, List.cons_append, List.nil_append, List.append_nil, List.getElem?_cons_zero, List.getElem?_cons_succ, List.set_cons_zero, List.set_cons_succ, Option.map_some, Option.map_none, Option.bind_some, Nat.reduceAdd, if_true, if_false, Bool.false_eq_true, Bool.not_true, Bool.not_false, reduceIte, reduceCtorEq, hc, at3_2, decide_eq_true hd, if_pos h0, if_pos hdiv]
    rw [if_pos ⟨rfl, by decide, by decide⟩]
    all_goals rfl
  · obtain ⟨p, hp, hp0, hp1⟩ := primes_at (k := k + 1)
    have hc1 : cellOf (μ.set j (.lst [.int c, .int (k + 1), .int d])) j = some [.int c, .int (k + 1), .int d] := cellOf_set hj
    have hm0 : 0 ≤ c % p := Int.emod_nonneg _ (by omega)
    have hm1 : c % p < p := Int.emod_lt_of_pos _ (by omega)
    refine ⟨(c % p + 7919 * (k + 1) + 1) ^ (5 : Int).toNat % p / 13 % many, μ.set j (srcC c (k + 1) d), ?_, ⟨Int.emod_nonneg _ (by omega), Int.emod_lt_of_pos _ h0⟩, c, k + 1, d, rfl, hj, by omega, by omega⟩
    simp only [fnK, fnKX, mOp, mVar, mC, mCall, mCallK, mCons, mNil, mTest, mNot, mAnd, mOr, mAndV, mOrV, mNotV, mNeg, mIf, mTup, mLst, mFz, mCell, mCat, mCb, mCc, mBm, mBc, mSl, mPart, mNoP, mChain, mIter, mRange1, mRange2, mEnum, mApp, mPop, Option.isSome_some, mLc, sSeq, sIf, sRet, sDrop, sAsg, sPar, sPar3, sFor, sWhile, sNext, sRetN, sSetIx, Rs.bind, Rs.of, isStr, tgName, tgT, tgCons, tgNil, wipeE, itemsOf, asL, asS, asQ, dAdd, dSub, dMul, dMod, dDiv, dPow, dLt, dLe, dGt, dGe, dEq, dNe, bEq, dIn, dNi, dIs, dIsn, bIs, isNon, dIx, dSl, dLen, dInt, dAll, dAny, dSum, dMax, dMin, dIsi, dIsiC, dSlV, dLtA, clsOf, mRev, mXfld, Rs.nr, sRetX, sDropX, sAsgX, sRaise, sTryAs, dTuple, lList, dStrip, dLower, dUpper, dFind, dRemPre, lSplit, dJoin, strsOf_map, blsOf_map, intsOf_map, List.length_cons, List.length_nil, List.map_cons, List.map_nil, List.replicate, List.cons_append, List.nil_append, List.append_nil, List.getElem?_cons_zero, List.getElem?_cons_succ, List.set_cons_zero, List.set_cons_succ, Option.map_some, Option.map_none, Option.bind_some, Nat.reduceAdd, if_true, if_false, Bool.false_eq_true, Bool.not_true, Bool.not_false, reduceIte, reduceCtorEq, hc, at3_2, at3_1, decide_eq_false hd]
    rw [if_pos ⟨rfl, by decide, by decide⟩]
    have hset : ([D.int c, D.int k, D.int d].set (1 : Int).toNat (D.int (k + 1))) = [D.int c, D.int (k + 1), D.int d] := rfl
    rw [hset]
    have hpr : (([D.int 2147483647, D.int 2147483629, D.int 2147483587, D.int 2147483579, D.int 2147483563, D.int 2147483549, D.int 2147483543, D.int 2147483497] ++ [D.int 2147483489, D.int 2147483477, D.int 2147483423]) : List D) = primesL.map D.int := rfl
    have hg1 : (0 : Int) < 11 := by decide
    have hg2 : (0 : Int) < p := by omega
    have hg3 : (-(2 ^ 64) < (7919 : Int) ∧ (7919 : Int) < 2 ^ 64) ∨ (-(2 ^ 64) < k + 1 ∧ k + 1 < 2 ^ 64) := .inl ⟨by decide, by decide⟩
    have hg4 : (0 : Int) ≤ 5 ∧ (5 : Int) ≤ 1000000 ∧ (c % p + 7919 * (k + 1) + 1).natAbs < 2 ^ 64 := by
      refine ⟨by decide, by decide, ?_⟩
      have : (2 : Nat) ^ 64 = 18446744073709551616 := by decide
      rw [this]
      omega
    have hg5 : (0 : Int) < 13 ∧ ((13 : Int) < 1073741824 ∨ (13 : Int).natAbs.log2 < 9000) := ⟨by decide, .inl (by decide)⟩
    simp only [fnK, fnKX, mOp, mVar, mC, mCall, mCallK, mCons, mNil, mTest, mNot, mAnd, mOr, mAndV, mOrV, mNotV, mNeg, mIf, mTup, mLst, mFz, mCell, mCat, mCb, mCc, mBm, mBc, mSl, mPart, mNoP, mChain, mIter, mRange1, mRange2, mEnum, mApp, mPop, Option.isSome_some, mLc, sSeq, sIf, sRet, sDrop, sAsg, sPar, sPar3, sFor, sWhile, sNext, sRetN, sSetIx, Rs.bind, Rs.of, isStr, tgName, tgT, tgCons, tgNil, wipeE, itemsOf, asL, asS, asQ, dAdd, dSub, dMul, dMod, dDiv, dPow, dLt, dLe, dGt, dGe, dEq, dNe, bEq, dIn, dNi, dIs, dIsn, bIs, isNon, dIx, dSl, dLen, dInt, dAll, dAny, dSum, dMax, dMin, dIsi, dIsiC, dSlV, dLtA, clsOf, mRev, mXfld, Rs.nr, sRetX, sDropX, sAsgX, sRaise, sTryAs, dTuple, lList, dStrip, dLower, dUpper, dFind, dRemPre, lSplit, dJoin, strsOf_map, blsOf_map, intsOf_map, List.length_cons, List.length_nil, List.map_cons, List.map_nil, List.replicate, List.cons_append, List.nil_append, List.append_nil, List.getElem?_cons_zero, List.getElem?_cons_succ, List.set_cons_zero, List.set_cons_succ, Option.map_some, Option.map_none, Option.bind_some, Nat.reduceAdd, if_true, if_false, Bool.false_eq_true, Bool.not_true, Bool.not_false, reduceIte, reduceCtorEq, hc1, at3_1, at3_0, Nat.reduceLeDiff, hpr, if_pos hg1, hp, if_pos hg2, if_pos hg3, if_pos hg4, if_pos hg5, if_pos h0]
    all_goals rfl

end
end My
namespace My
open PySem PySem.Spec PyProof.Rows L2
section
variable {P : Program} [hP : OkP fileS P] {w : World} {K : PySem.W.Frag} {mg : Str → Option Value} {base : Heap}
/-! ### picks, rounds -/
theorem p_pickS {μ : Store} {j n : Nat} {l : Codes} (hs : Src μ j (n + 1)) (h0 : 0 < l.length) (h1 : l.length ≤ 100000) : ∃ c μ', m_l_pick [.ref j, .str l] μ = .ok (.str [c]) μ' ∧ c ∈ l ∧ Drw μ j n μ' := by
  obtain ⟨r, μ', hr, ⟨hr0, hr1⟩, hd⟩ := p_next (many := (l.length : Int)) hs (by omega) (by omega)
  obtain ⟨c, hc, hc2⟩ := atI_mem (xs := l) hr0 hr1
  refine ⟨c, μ', ?_, List.mem_of_getElem? hc2, hd⟩
  unfold m_l_pick b_l_pick
  simp only [fnK, fnKX, mOp, mVar, mC, mCall, mCallK, mCons, mNil, mTest, mNot, mAnd, mOr, mAndV, mOrV, mNotV, mNeg, mIf, mTup, mLst, mFz, mCell, mCat, mCb, mCc, mBm, mBc, mSl, mPart, mNoP, mChain, mIter, mRange1, mRange2, mEnum, mApp, mPop, Option.isSome_some, mLc, sSeq, sIf, sRet, sDrop, sAsg, sPar, sPar3, sFor, sWhile, sNext, sRetN, sSetIx, Rs.bind, Rs.of, isStr, tgName, tgT, tgCons, tgNil, wipeE, itemsOf, asL, asS, asQ, dAdd, dSub, dMul, dMod, dDiv, dPow, dLt, dLe, dGt, dGe, dEq, dNe, bEq, dIn, dNi, dIs, dIsn, bIs, isNon, dIx, dSl, dLen, dInt, dAll, dAny, dSum, dMax, dMin, dIsi, dIsiC, dSlV, dLtA, clsOf, mRev, mXfld, Rs.nr, sRetX, sDropX, sAsgX, sRaise, sTryAs, dTuple, lList, dStrip, dLower, dUpper, dFind, dRemPre, lSplit, dJoin, strsOf_map, blsOf_map, intsOf_map, List.length_cons, List.length_nil, List.map_cons, List.map_nil, List.replicate, List.cons_append, List.nil_append, List.append_nil, List.getElem?_cons_zero, List.getElem?_cons_succ, List.set_cons_zero, List.set_cons_succ, Option.map_some, Option.map_none, Option.bind_some, Nat.reduceAdd, if_true, if_false, Bool.false_eq_true, Bool.not_true, Bool.not_false, reduceIte, reduceCtorEq, if_pos h1, hr, hc]
theorem p_pickL {μ : Store} {j n : Nat} {xs : List D} (hs : Src μ j (n + 1)) (h0 : 0 < xs.length) (h1 : xs.length ≤ 100000) : ∃ x μ', m_l_pick [.ref j, .lst xs] μ = .ok x μ' ∧ x ∈ xs ∧ Drw μ j n μ' := by
  obtain ⟨r, μ', hr, ⟨hr0, hr1⟩, hd⟩ := p_next (many := (xs.length : Int)) hs (by omega) (by omega)
  obtain ⟨c, hc, hc2⟩ := atI_mem (xs := xs) hr0 hr1
  refine ⟨c, μ', ?_, List.mem_of_getElem? hc2, hd⟩
  unfold m_l_pick b_l_pick
  simp only [fnK, fnKX, mOp, mVar, mC, mCall, mCallK, mCons, mNil, mTest, mNot, mAnd, mOr, mAndV, mOrV, mNotV, mNeg, mIf, mTup, mLst, mFz, mCell, mCat, mCb, mCc, mBm, mBc, mSl, mPart, mNoP, mChain, mIter, mRange1, mRange2, mEnum, mApp, mPop, Option.isSome_some, mLc, sSeq, sIf, sRet, sDrop, sAsg, sPar, sPar3, sFor, sWhile, sNext, sRetN, sSetIx, Rs.bind, Rs.of, isStr, tgName, tgT, tgCons, tgNil, wipeE, itemsOf, asL, asS, asQ, dAdd, dSub, dMul, dMod, dDiv, dPow, dLt, dLe, dGt, dGe, dEq, dNe, bEq, dIn, dNi, dIs, dIsn, bIs, isNon, dIx, dSl, dLen, dInt, dAll, dAny, dSum, dMax, dMin, dIsi, dIsiC, dSlV, dLtA, clsOf, mRev, mXfld, Rs.nr, sRetX, sDropX, sAsgX, sRaise, sTryAs, dTuple, lList, dStrip, dLower, dUpper, dFind, dRemPre, lSplit, dJoin, strsOf_map, blsOf_map, intsOf_map, List.length_cons, List.length_nil, List.map_cons, List.map_nil, List.replicate, List.cons_append, List.nil_append, List.append_nil, List.getElem?_cons_zero, List.getElem?_cons_succ, List.set_cons_zero, List.set_cons_succ, Option.map_some, Option.map_none, Option.bind_some, Nat.reduceAdd, if_true, if_false, Bool.false_eq_true, Bool.not_true, Bool.not_false, reduceIte, reduceCtorEq, hr, hc]
theorem p_pickR {μ : Store} {j i n : Nat} {xs : List D} (hs : Src μ j (n + 1)) (hi : j ≠ i) (hx : cellOf μ i = some xs) (h0 : 0 < xs.length) (h1 : xs.length ≤ 100000) : ∃ x μ', m_l_pick [.ref j, .ref i] μ = .ok x μ' ∧ x ∈ xs ∧ Drw μ j n μ' := by
  obtain ⟨r, μ', hr, ⟨hr0, hr1⟩, hd⟩ := p_next (many := (xs.length : Int)) hs (by omega) (by omega)
  obtain ⟨c, hc, hc2⟩ := atI_mem (xs := xs) hr0 hr1
  refine ⟨c, μ', ?_, List.mem_of_getElem? hc2, hd⟩
  have hx' : cellOf μ' i = some xs := (hd.cell hi).trans hx
  unfold m_l_pick b_l_pick
  simp only [fnK, fnKX, mOp, mVar, mC, mCall, mCallK, mCons, mNil, mTest, mNot, mAnd, mOr, mAndV, mOrV, mNotV, mNeg, mIf, mTup, mLst, mFz, mCell, mCat, mCb, mCc, mBm, mBc, mSl, mPart, mNoP, mChain, mIter, mRange1, mRange2, mEnum, mApp, mPop, Option.isSome_some, mLc, sSeq, sIf, sRet, sDrop, sAsg, sPar, sPar3, sFor, sWhile, sNext, sRetN, sSetIx, Rs.bind, Rs.of, isStr, tgName, tgT, tgCons, tgNil, wipeE, itemsOf, asL, asS, asQ, dAdd, dSub, dMul, dMod, dDiv, dPow, dLt, dLe, dGt, dGe, dEq, dNe, bEq, dIn, dNi, dIs, dIsn, bIs, isNon, dIx, dSl, dLen, dInt, dAll, dAny, dSum, dMax, dMin, dIsi, dIsiC, dSlV, dLtA, clsOf, mRev, mXfld, Rs.nr, sRetX, sDropX, sAsgX, sRaise, sTryAs, dTuple, lList, dStrip, dLower, dUpper, dFind, dRemPre, lSplit, dJoin, strsOf_map, blsOf_map, intsOf_map, List.length_cons, List.length_nil, List.map_cons, List.map_nil, List.replicate, List.cons_append, List.nil_append, List.append_nil, List.getElem?_cons_zero, List.getElem?_cons_succ, List.set_cons_zero, List.set_cons_succ, Option.map_some, Option.map_none, Option.bind_some, Nat.reduceAdd, if_true, if_false, Bool.false_eq_true, Bool.not_true, Bool.not_false, reduceIte, reduceCtorEq, hx, hr, hx', hc]
/-- texts, drawn of a list of texts -/
theorem p_pickT {μ : Store} {j n : Nat} {ls : List Codes} (hs : Src μ j (n + 1)) (h0 : 0 < ls.length) (h1 : ls.length ≤ 100000) : ∃ s μ', m_l_pick [.ref j, .lst (ls.map D.str)] μ = .ok (.str s) μ' ∧ s ∈ ls ∧ Drw μ j n μ' := by
  obtain ⟨x, μ', h, hx, hd⟩ := p_pickL (xs := ls.map D.str) hs (by rw [List.length_map]; exact h0) (by rw [List.length_map]; exact h1)
  obtain ⟨s, hs, rfl⟩ := List.mem_map.mp hx
  exact ⟨s, μ', h, hs, hd⟩
theorem p_pickI {μ : Store} {j n : Nat} {ls : List Int} (hs : Src μ j (n + 1)) (h0 : 0 < ls.length) (h1 : ls.length ≤ 100000) : ∃ s μ', m_l_pick [.ref j, .lst (ls.map D.int)] μ = .ok (.int s) μ' ∧ s ∈ ls ∧ Drw μ j n μ' := by
  obtain ⟨x, μ', h, hx, hd⟩ := p_pickL (xs := ls.map D.int) hs (by rw [List.length_map]; exact h0) (by rw [List.length_map]; exact h1)
  obtain ⟨s, hs, rfl⟩ := List.mem_map.mp hx
  exact ⟨s, μ', h, hs, hd⟩
theorem p_source {μ : Store} {ns : List Int} {i : Nat} (hi : i < ns.length) (hn : ns.length ≤ 100) : ∃ c d : Int, m_l_source [.lst (ns.map D.int), .int (i : Int)] μ = .ok (.ref μ.length) (μ ++ [srcC c (3 * (i : Int)) d]) := by
  have h0 : (0 : Int) < (ns.length : Int) := by omega
  have hm : (i : Int) % (ns.length : Int) = (i : Int) := Int.emod_eq_of_lt (by omega) (by omega)
  obtain ⟨c, hc⟩ : ∃ c, ns[i]? = some c := ⟨_, List.getElem?_eq_getElem hi⟩
  have hat : atI (ns.map D.int) (i : Int) = some (.int c) := by
    obtain ⟨x, hx, hx2⟩ := atI_mem (xs := ns.map D.int) (i := (i : Int)) (by omega) (by rw [List.length_map]; omega)
    rw [hx]
    rw [Int.toNat_natCast, List.getElem?_map, hc] at hx2
    exact hx2.symm
  have hD : ∀ xs : List Int, ∃ e, toDataL (xs.map D.int) = some e ∧ e = xs.map PyData.int := by
    intro xs
    induction xs with
    | nil => exact ⟨_, rfl, rfl⟩
    | cons x xs ih =>
      obtain ⟨e, h1, rfl⟩ := ih
      refine ⟨_, ?_, rfl⟩
      rw [List.map_cons, toDataL, h1]
      all_goals rfl
  obtain ⟨e, he, rfl⟩ := hD ns
  have hsh : SeqAt.shaped (.list (ns.map PyData.int)) = true := by
    have h1 : ∀ ns : List Int, PyData.canLayAll0 (ns.map PyData.int) = true := by
      intro ns
      induction ns with
      | nil => rfl
      | cons n ns ih => exact ih
    have h2 : ∀ ns : List Int, PyData.depthAll (ns.map PyData.int) ≤ 1 := by
      intro ns
      induction ns with
      | nil => simp [PyData.depthAll]
      | cons n ns ih =>
        simp only [List.map_cons, PyData.depthAll, PyData.depth]
        omega
    unfold SeqAt.shaped
    rw [Bool.and_eq_true]
    refine ⟨h1 ns, decide_eq_true ?_⟩
    have := h2 ns
    simp only [PyData.depth]
    omega
  have hne : bEq μ (.lst (ns.map D.int)) (.lst []) = some false := by
    unfold bEq
    simp only [toDataS, toData, he, Option.map_some, toDataL]
    rw [if_pos ⟨hsh, by decide⟩]
    cases ns with
    | nil => simp at hi
    | cons a as => rfl
  have e18 : (10 : Int) ^ (18 : Int).toNat = 1000000000000000000 := by decide
  have hg1 : (0 : Int) ≤ 18 ∧ (18 : Int) ≤ 1000000 ∧ (10 : Int).natAbs < 2 ^ 64 := by decide
  have hg2 : (-(2 ^ 64) < (3 : Int) ∧ (3 : Int) < 2 ^ 64) ∨ (-(2 ^ 64) < (i : Int) ∧ (i : Int) < 2 ^ 64) := .inl ⟨by decide, by decide⟩
  have hg3 : (0 : Int) < 1000000000000000000 ∧ ((1000000000000000000 : Int) < 1073741824 ∨ (1000000000000000000 : Int).natAbs.log2 < 9000) := by decide +kernel
  refine ⟨c, if (1000000000000000000 : Int) ≤ c then c / 1000000000000000000 else 0, ?_⟩
  unfold m_l_source b_l_source
  simp only [fnK, mOp, mVar, mC, mCons, mNil, mTest, mIf, mLst, mFz, mCell, mCb, sSeq, sRet, sAsg, Rs.bind, Rs.of, tgName, asQ, dMul, dMod, dDiv, dPow, dGe, dNe, dIx, dLen, dInt, List.length_cons, List.length_nil, List.map_cons, List.map_nil, List.replicate, List.cons_append, List.nil_append, List.getElem?_cons_zero, List.getElem?_cons_succ, List.set_cons_zero, List.set_cons_succ, Option.map_some, if_true, Nat.zero_le, hne, Bool.not_false, List.length_map, if_pos h0, hm, hat, if_pos hg1, if_pos hg2, e18]
  by_cases hc18 : (1000000000000000000 : Int) ≤ c
  · simp only [decide_eq_true hc18, if_true, if_pos hg3, if_pos hc18]
    rfl
  · simp only [decide_eq_false hc18, Bool.false_eq_true, if_false, if_neg hc18]
    rfl
/-- a row of new sources -/
theorem p_rounds_lc {ns : List Int} (hn : ns.length ≤ 100) {x0 x1 x2 : Option D} : ∀ (is : List Nat) (μ : Store), (∀ i ∈ is, i < ns.length) → ∃ cs : List Cell, cs.length = is.length ∧ (∀ c ∈ cs, ∃ a k d : Int, c = srcC a k d ∧ 0 ≤ k ∧ k ≤ 300) ∧
    lcGo none (tgName 4) (mC true) le_l_rounds_1 [x0, x1, x2, some (.lst (ns.map D.int)), none] (is.map fun (i : Nat) => .int (0 + (i : Int))) μ = .ok ((List.range is.length).map fun i => .ref (μ.length + i)) (μ ++ cs)
  | [], μ, _ => ⟨[], rfl, fun c h => (nomatch h), by simp [lcGo]⟩
  | i :: is, μ, h => by
    have hi := h i (List.mem_cons_self ..)
    obtain ⟨c, d, e⟩ := p_source (μ := μ) hi hn
    obtain ⟨cs, h1, h2, h3⟩ := p_rounds_lc hn (x0 := x0) (x1 := x1) (x2 := x2) is (μ ++ [srcC c (3 * (i : Int)) d]) fun k hk => h k (List.mem_cons_of_mem _ hk)
    refine ⟨srcC c (3 * (i : Int)) d :: cs, by rw [List.length_cons, List.length_cons, h1], fun x hx => ?_, ?_⟩
    · rcases List.mem_cons.mp hx with rfl | hx
      · exact ⟨c, _, d, rfl, by omega, by omega⟩
      · exact h2 x hx
    · have e2 : le_l_rounds_1 [x0, x1, x2, some (.lst (ns.map D.int)), some (.int (0 + (i : Int)))] μ = .ok (.ref μ.length) (μ ++ [srcC c (3 * (i : Int)) d]) := by
        unfold le_l_rounds_1
        simp only [fnK, fnKX, mOp, mVar, mC, mCall, mCallK, mCons, mNil, mTest, mNot, mAnd, mOr, mAndV, mOrV, mNotV, mNeg, mIf, mTup, mLst, mFz, mCell, mCat, mCb, mCc, mBm, mBc, mSl, mPart, mNoP, mChain, mIter, mRange1, mRange2, mEnum, mApp, mPop, Option.isSome_some, mLc, sSeq, sIf, sRet, sDrop, sAsg, sPar, sPar3, sFor, sWhile, sNext, sRetN, sSetIx, Rs.bind, Rs.of, isStr, tgName, tgT, tgCons, tgNil, wipeE, itemsOf, asL, asS, asQ, dAdd, dSub, dMul, dMod, dDiv, dPow, dLt, dLe, dGt, dGe, dEq, dNe, bEq, dIn, dNi, dIs, dIsn, bIs, isNon, dIx, dSl, dLen, dInt, dAll, dAny, dSum, dMax, dMin, dIsi, dIsiC, dSlV, dLtA, clsOf, mRev, mXfld, Rs.nr, sRetX, sDropX, sAsgX, sRaise, sTryAs, dTuple, lList, dStrip, dLower, dUpper, dFind, dRemPre, lSplit, dJoin, strsOf_map, blsOf_map, intsOf_map, List.length_cons, List.length_nil, List.map_cons, List.map_nil, List.replicate, List.cons_append, List.nil_append, List.append_nil, List.getElem?_cons_zero, List.getElem?_cons_succ, List.set_cons_zero, List.set_cons_succ, Option.map_some, Option.map_none, Option.bind_some, Nat.reduceAdd, if_true, if_false, Bool.false_eq_true, Bool.not_true, Bool.not_false, reduceIte, reduceCtorEq, Int.zero_add, e]
      rw [List.map_cons, lcGo_yes (env1 := [x0, x1, x2, some (.lst (ns.map D.int)), some (.int (0 + (i : Int)))]) rfl rfl e2, h3]
      simp only [Rs.bind_k, List.length_append, List.length_cons, List.length_nil, List.append_assoc, List.cons_append, List.nil_append]
      rw [List.range_succ_eq_map, List.map_cons, List.map_map]
      congr 2
      refine List.map_congr_left fun k _ => ?_
      show D.ref (μ.length + (0 + 1) + k) = D.ref (μ.length + (k + 1))
      congr 1
      omega
theorem cutD_ints (ns : List Int) (j : Nat) : cutD (ns.map D.int) none (some (j : Int)) = (ns.take j).map D.int := by
  unfold cutD
  rw [HT.sIx_none, show HT.sIx (ns.map D.int).length (ns.map D.int).length (some (j : Int)) = min j (ns.map D.int).length from HT.sIx_nat _ _ j, List.drop_zero, Nat.sub_zero, List.length_map, List.map_take]
  by_cases h : j ≤ ns.length
  · rw [Nat.min_eq_left h]
  · rw [Nat.min_eq_right (by omega), List.take_of_length_le (by rw [List.length_map]; exact Nat.le_refl _), List.take_of_length_le (by rw [List.length_map]; omega)]
theorem p_rounds {ns : List Int} {most : Nat} (hn : ns.length ≤ 63) (hm : most ≤ 30) : ∃ cs : List Cell, (∀ c ∈ cs, ∃ a k d : Int, c = srcC a k d ∧ 0 ≤ k ∧ k ≤ 300) ∧
    m_l_rounds [.wl (ns.map D.int), .int (most : Int)] [] = .ok (.lst ((List.range cs.length).map fun i => .ref i)) cs := by
  have e17 : (10 : Int) ^ (17 : Int).toNat = 100000000000000000 := by decide
  have hg1 : (0 : Int) ≤ 17 ∧ (17 : Int) ≤ 1000000 ∧ (10 : Int).natAbs < 2 ^ 64 := by decide
  have hg2 : (-(2 ^ 64) < ns.sum ∧ ns.sum < 2 ^ 64) ∨ (-(2 ^ 64) < (48271 : Int) ∧ (48271 : Int) < 2 ^ 64) := .inr ⟨by decide, by decide⟩
  have hg3 : (-(2 ^ 64) < (104729 : Int) ∧ (104729 : Int) < 2 ^ 64) ∨ (-(2 ^ 64) < (ns.length : Int) ∧ (ns.length : Int) < 2 ^ 64) := .inl ⟨by decide, by decide⟩
  have hg4 : (0 : Int) < 100000000000000000 := by decide
  generalize hbl : (ns.sum * 48271 + 104729 * (ns.length : Int) + 17) % 100000000000000000 = bl
  have hcl : (ns.take most).map D.int ++ [D.int bl] = (ns.take most ++ [bl]).map D.int := by rw [List.map_append]; rfl
  have hlen : (ns.take most ++ [bl]).length ≤ 64 := by simp; omega
  obtain ⟨cs, h1, h2, h3⟩ := p_rounds_lc (ns := ns.take most ++ [bl]) (by omega) (x0 := some (.wl (ns.map D.int))) (x1 := some (.int (most : Int))) (x2 := some (.int bl)) (List.range (ns.take most ++ [bl]).length) [] fun i hi => List.mem_range.mp hi
  rw [List.length_range] at h1 h3
  refine ⟨cs, h2, ?_⟩
  unfold m_l_rounds b_l_rounds
  simp only [fnK, mOp, mVar, mC, mCons, mNil, mLst, mFz, mCb, mCc, mSl, mPart, mNoP, mRange1, mLc, sSeq, sRet, sAsg, Rs.bind, Rs.of, tgName, asQ, asS, asL, dMul, dMod, dPow, dAdd, dSum, dSl, dSlV, dLen, dInt, lList, intsOf_map, wipeE, List.length_cons, List.length_nil, List.map_cons, List.map_nil, List.replicate, List.cons_append, List.nil_append, List.getElem?_cons_zero, List.getElem?_cons_succ, List.set_cons_zero, List.set_cons_succ, Option.map_some, if_true, Nat.zero_le, List.length_map, if_pos hg1, if_pos hg2, if_pos hg3, if_pos hg4, e17, hbl, cutD_ints, Nat.reduceAdd, Nat.reduceLeDiff]
  rw [if_pos (by rw [List.length_take]; omega), hcl]
  simp only [fnK, fnKX, mOp, mVar, mC, mCall, mCallK, mCons, mNil, mTest, mNot, mAnd, mOr, mAndV, mOrV, mNotV, mNeg, mIf, mTup, mLst, mFz, mCell, mCat, mCb, mCc, mBm, mBc, mSl, mPart, mNoP, mChain, mIter, mRange1, mRange2, mEnum, mApp, mPop, Option.isSome_some, mLc, sSeq, sIf, sRet, sDrop, sAsg, sPar, sPar3, sFor, sWhile, sNext, sRetN, sSetIx, Rs.bind, Rs.of, isStr, tgName, tgT, tgCons, tgNil, wipeE, itemsOf, asL, asS, asQ, dAdd, dSub, dMul, dMod, dDiv, dPow, dLt, dLe, dGt, dGe, dEq, dNe, bEq, dIn, dNi, dIs, dIsn, bIs, isNon, dIx, dSl, dLen, dInt, dAll, dAny, dSum, dMax, dMin, dIsi, dIsiC, dSlV, dLtA, clsOf, mRev, mXfld, Rs.nr, sRetX, sDropX, sAsgX, sRaise, sTryAs, dTuple, lList, dStrip, dLower, dUpper, dFind, dRemPre, lSplit, dJoin, strsOf_map, blsOf_map, intsOf_map, List.length_cons, List.length_nil, List.map_cons, List.map_nil, List.replicate, List.cons_append, List.nil_append, List.append_nil, List.getElem?_cons_zero, List.getElem?_cons_succ, List.set_cons_zero, List.set_cons_succ, Option.map_some, Option.map_none, Option.bind_some, Nat.reduceAdd, if_true, if_false, Bool.false_eq_true, Bool.not_true, Bool.not_false, reduceIte, reduceCtorEq, List.length_map]
  rw [if_pos (by omega)]
  have e5 : rngL 0 ((ns.take most ++ [bl]).length : Int).toNat = (List.range (ns.take most ++ [bl]).length).map fun (i : Nat) => .int (0 + (i : Int)) := by rw [Int.toNat_natCast]; rfl
  rw [e5]
  simp only [List.length_map, List.length_range]
  rw [if_pos (by omega), h3]
  simp only [List.nil_append, List.length_nil, Nat.zero_add, h1]
/-- a loop over the sources -/
theorem rounds_loop {tg : Tg} {body : MS} (N : Nat) (I : En → Prop) (hb : ∀ env μ j, I env → Src μ j N → ∃ env1 env2 μ2 n', tg (.ref j) env = some env1 ∧ body env1 μ = .nx env2 μ2 ∧ Drw μ j n' μ2 ∧ I env2) :
    ∀ (js : List Nat) (env : En) (μ : Store), js.Nodup → (∀ j ∈ js, Src μ j N) → I env → ∃ env2 μ2, forGo none tg body (js.map D.ref) env μ = .nx env2 μ2 ∧ I env2
  | [], env, μ, _, _, h => ⟨env, μ, rfl, h⟩
  | j :: js, env, μ, nd, hs, h => by
    obtain ⟨env1, env2, μ2, n', h1, h2, h3, h4⟩ := hb env μ j h (hs j (List.mem_cons_self ..))
    have nd' := List.nodup_cons.mp nd
    obtain ⟨env3, μ3, h5, h6⟩ := rounds_loop N I hb js env2 μ2 nd'.2 (fun i hi => by
      obtain ⟨c, k, d, e, r⟩ := hs i (List.mem_cons_of_mem _ hi)
      exact ⟨c, k, d, by rw [h3.get (fun z => nd'.1 (z ▸ hi))]; exact e, r⟩) h4
    exact ⟨env3, μ3, by rw [List.map_cons, forGo_nx h1 h2]; exact h5, h6⟩
theorem srcs_start {cs : List Cell} {N : Nat} (hN : N ≤ 1000000000) (h : ∀ c ∈ cs, ∃ a k d : Int, c = srcC a k d ∧ 0 ≤ k ∧ k ≤ 300) : ∀ j ∈ List.range cs.length, Src cs j N := fun j hj => by
  have hl := List.mem_range.mp hj
  obtain ⟨a, k, d, e, h0, h1⟩ := h cs[j] (List.getElem_mem hl)
  exact ⟨a, k, d, by rw [List.getElem?_eq_getElem hl, e], h0, by omega⟩

end
end My
namespace My
open PySem PySem.Spec PyProof.Rows L2
section
variable {P : Program} [hP : OkP fileS P] {w : World} {K : PySem.W.Frag} {mg : Str → Option Value} {base : Heap}
/-! ### stores -/
section
variable {μ : Store} {xs ys zs : List D}
theorem st2_0 : cellOf (μ ++ [Cell.lst xs, Cell.lst ys]) μ.length = some xs := by
  unfold cellOf
  rw [List.getElem?_append_right (Nat.le_refl _), Nat.sub_self]
  all_goals rfl
theorem st2_1 : cellOf (μ ++ [Cell.lst xs, Cell.lst ys]) (μ.length + 1) = some ys := by
  unfold cellOf
  rw [List.getElem?_append_right (by omega), Nat.add_sub_cancel_left]
  all_goals rfl
theorem st2_s0 : (μ ++ [Cell.lst xs, Cell.lst ys]).set μ.length (.lst zs) = μ ++ [Cell.lst zs, .lst ys] := by
  rw [List.set_append_right _ _ (Nat.le_refl _), Nat.sub_self]
  all_goals rfl
theorem st2_s1 : (μ ++ [Cell.lst xs, Cell.lst ys]).set (μ.length + 1) (.lst zs) = μ ++ [Cell.lst xs, .lst zs] := by
  rw [List.set_append_right _ _ (by omega), Nat.add_sub_cancel_left]
  all_goals rfl
theorem st2_g1 : (μ ++ [Cell.lst xs, Cell.lst ys])[μ.length + 1]? = some (.lst ys) := by
  rw [List.getElem?_append_right (by omega)]
  simp
theorem st1_g0 {c : Cell} : (μ ++ [c])[μ.length]? = some c := by
  rw [List.getElem?_append_right (by omega)]
  simp
theorem st1_0 : cellOf (μ ++ [Cell.lst xs]) μ.length = some xs := by
  unfold cellOf
  rw [List.getElem?_append_right (Nat.le_refl _), Nat.sub_self]
  all_goals rfl
theorem st1_s0 : (μ ++ [Cell.lst xs]).set μ.length (.lst zs) = μ ++ [Cell.lst zs] := by
  rw [List.set_append_right _ _ (Nat.le_refl _), Nat.sub_self]
  all_goals rfl
end
theorem erase_mapD {α : Type} (f : α → D) : ∀ (l : List α) (k : Nat), (l.map f).eraseIdx k = (l.eraseIdx k).map f
  | [], _ => rfl
  | x :: l, 0 => rfl
  | x :: l, k + 1 => by
    show f x :: (l.map f).eraseIdx k = f x :: (l.eraseIdx k).map f
    rw [erase_mapD f l k]
theorem pure_strs : ∀ (ls : List Codes), pureL (ls.map D.str) = true
  | [] => rfl
  | _ :: ls => pure_strs ls

end
end My
namespace My
open PySem PySem.Spec PyProof.Rows L2
section
variable {P : Program} [hP : OkP fileS P] {w : World} {K : PySem.W.Frag} {mg : Str → Option Value} {base : Heap}
/-! ### lines of pairs -/
theorem p_le_lleaf {q : Pair} {x : Option D} {μ : Store} (h1 : q.1.length ≤ 20) (h2 : q.2.length ≤ 100) : le_l_leaf_line_1 [x, some (.str q.1), some (.str q.2)] μ = .ok (.str (pairL q)) μ := by
  have h3 := escL_len q.2
  have h4 : m_l_escaped [.str q.2] μ = .ok (.str (escL q.2)) μ := mTxt_eq (decide_eq_true (show q.2.length ≤ 20000 by omega))
  unfold le_l_leaf_line_1
  simp only [fnK, fnKX, mOp, mVar, mC, mCall, mCallK, mCons, mNil, mTest, mNot, mAnd, mOr, mAndV, mOrV, mNotV, mNeg, mIf, mTup, mLst, mFz, mCell, mCat, mCb, mCc, mBm, mBc, mSl, mPart, mNoP, mChain, mIter, mRange1, mRange2, mEnum, mApp, mPop, Option.isSome_some, mLc, sSeq, sIf, sRet, sDrop, sAsg, sPar, sPar3, sFor, sWhile, sNext, sRetN, sSetIx, Rs.bind, Rs.of, isStr, tgName, tgT, tgCons, tgNil, wipeE, itemsOf, asL, asS, asQ, dAdd, dSub, dMul, dMod, dDiv, dPow, dLt, dLe, dGt, dGe, dEq, dNe, bEq, dIn, dNi, dIs, dIsn, bIs, isNon, dIx, dSl, dLen, dInt, dAll, dAny, dSum, dMax, dMin, dIsi, dIsiC, dSlV, dLtA, clsOf, mRev, mXfld, Rs.nr, sRetX, sDropX, sAsgX, sRaise, sTryAs, dTuple, lList, dStrip, dLower, dUpper, dFind, dRemPre, lSplit, dJoin, strsOf_map, blsOf_map, intsOf_map, List.length_cons, List.length_nil, List.map_cons, List.map_nil, List.replicate, List.cons_append, List.nil_append, List.append_nil, List.getElem?_cons_zero, List.getElem?_cons_succ, List.set_cons_zero, List.set_cons_succ, Option.map_some, Option.map_none, Option.bind_some, Nat.reduceAdd, if_true, if_false, Bool.false_eq_true, Bool.not_true, Bool.not_false, reduceIte, reduceCtorEq]
  rw [if_pos (by simp; omega)]
  simp only [fnK, fnKX, mOp, mVar, mC, mCall, mCallK, mCons, mNil, mTest, mNot, mAnd, mOr, mAndV, mOrV, mNotV, mNeg, mIf, mTup, mLst, mFz, mCell, mCat, mCb, mCc, mBm, mBc, mSl, mPart, mNoP, mChain, mIter, mRange1, mRange2, mEnum, mApp, mPop, Option.isSome_some, mLc, sSeq, sIf, sRet, sDrop, sAsg, sPar, sPar3, sFor, sWhile, sNext, sRetN, sSetIx, Rs.bind, Rs.of, isStr, tgName, tgT, tgCons, tgNil, wipeE, itemsOf, asL, asS, asQ, dAdd, dSub, dMul, dMod, dDiv, dPow, dLt, dLe, dGt, dGe, dEq, dNe, bEq, dIn, dNi, dIs, dIsn, bIs, isNon, dIx, dSl, dLen, dInt, dAll, dAny, dSum, dMax, dMin, dIsi, dIsiC, dSlV, dLtA, clsOf, mRev, mXfld, Rs.nr, sRetX, sDropX, sAsgX, sRaise, sTryAs, dTuple, lList, dStrip, dLower, dUpper, dFind, dRemPre, lSplit, dJoin, strsOf_map, blsOf_map, intsOf_map, List.length_cons, List.length_nil, List.map_cons, List.map_nil, List.replicate, List.cons_append, List.nil_append, List.append_nil, List.getElem?_cons_zero, List.getElem?_cons_succ, List.set_cons_zero, List.set_cons_succ, Option.map_some, Option.map_none, Option.bind_some, Nat.reduceAdd, if_true, if_false, Bool.false_eq_true, Bool.not_true, Bool.not_false, reduceIte, reduceCtorEq, h4]
  rw [if_pos (by simp; omega)]
  all_goals rfl
theorem p_leaf_line {x : D} {μ : Store} {ps : List Pair} (hx : itemsOf μ x = some (ps.map pairD, none)) (hs : shortP 100 ps) : m_l_leaf_line [x] μ = .ok (.str (leafLine ps)) μ := by
  have hl := hs.1
  have hlc : lcGo none (tgT 2 (tgCons (tgName 1) (tgCons (tgName 2) tgNil))) (mC true) le_l_leaf_line_1 [some x, none, none] (ps.map pairD) μ = .ok (ps.map fun q => .str (pairL q)) μ := lcGo_mapM pairD (fun q => .str (pairL q)) ps fun q hq => ⟨[some x, some (.str q.1), some (.str q.2)], rfl, rfl, p_le_lleaf (hs.2 q hq).1 (hs.2 q hq).2⟩
  have h1 := sum_le (fun x : Codes => x.length) 300 (ps.map pairL) (fun x hx => by
    obtain ⟨a, ham, rfl⟩ := List.mem_map.mp hx
    have hl1 := hs.2 a ham
    have hl2 := escL_len a.2
    unfold pairL
    simp only [List.length_append, List.length_singleton]
    omega)
  rw [List.length_map] at h1
  have e2 : (ps.map fun q => D.str (pairL q)) = (ps.map pairL).map D.str := by rw [List.map_map]; rfl
  unfold m_l_leaf_line b_l_leaf_line
  simp only [fnK, mBm, mCons, mFz, mLc, mIter, mVar, mC, Rs.bind, Rs.of, sRet, isStr, List.length_cons, List.length_nil, List.map_cons, List.map_nil, List.replicate, List.cons_append, List.nil_append, List.getElem?_cons_zero, hx, wipeE, List.set_cons_succ, List.set_cons_zero, List.length_map, if_true]
  rw [if_pos (by omega), hlc, e2]
  simp only [dJoin, asQ, strsOf_map, mNil]
  rw [if_pos (by
    rw [List.length_map]
    simp only [List.length_cons, List.length_nil]
    omega)]
  rfl
theorem p_line {μ : Store} {ls : List (List Pair)} (hn : ls.length ≤ 50) (hs : ∀ ps ∈ ls, shortP 100 ps) : m_l_line [.lst (ls.map fun ps => .lst (ps.map pairD))] μ = .ok (.str (lineL ls)) μ := by
  have hlc : lcGo none (tgName 1) (mC true) le_l_line_1 [some (.lst (ls.map fun ps => .lst (ps.map pairD))), none] (ls.map fun ps => .lst (ps.map pairD)) μ = .ok (ls.map fun ps => .str (leafLine ps)) μ := lcGo_mapM (fun ps => D.lst (ps.map pairD)) (fun ps => .str (leafLine ps)) ls fun ps hps => ⟨[some (.lst (ls.map fun ps => .lst (ps.map pairD))), some (.lst (ps.map pairD))], rfl, rfl, by
    unfold le_l_line_1
    simp only [fnK, fnKX, mOp, mVar, mC, mCall, mCallK, mCons, mNil, mTest, mNot, mAnd, mOr, mAndV, mOrV, mNotV, mNeg, mIf, mTup, mLst, mFz, mCell, mCat, mCb, mCc, mBm, mBc, mSl, mPart, mNoP, mChain, mIter, mRange1, mRange2, mEnum, mApp, mPop, Option.isSome_some, mLc, sSeq, sIf, sRet, sDrop, sAsg, sPar, sPar3, sFor, sWhile, sNext, sRetN, sSetIx, Rs.bind, Rs.of, isStr, tgName, tgT, tgCons, tgNil, wipeE, itemsOf, asL, asS, asQ, dAdd, dSub, dMul, dMod, dDiv, dPow, dLt, dLe, dGt, dGe, dEq, dNe, bEq, dIn, dNi, dIs, dIsn, bIs, isNon, dIx, dSl, dLen, dInt, dAll, dAny, dSum, dMax, dMin, dIsi, dIsiC, dSlV, dLtA, clsOf, mRev, mXfld, Rs.nr, sRetX, sDropX, sAsgX, sRaise, sTryAs, dTuple, lList, dStrip, dLower, dUpper, dFind, dRemPre, lSplit, dJoin, strsOf_map, blsOf_map, intsOf_map, List.length_cons, List.length_nil, List.map_cons, List.map_nil, List.replicate, List.cons_append, List.nil_append, List.append_nil, List.getElem?_cons_zero, List.getElem?_cons_succ, List.set_cons_zero, List.set_cons_succ, Option.map_some, Option.map_none, Option.bind_some, Nat.reduceAdd, if_true, if_false, Bool.false_eq_true, Bool.not_true, Bool.not_false, reduceIte, reduceCtorEq, p_leaf_line (x := .lst (ps.map pairD)) (ps := ps) rfl (hs ps hps)]⟩
  have h1 := sum_le (fun x : Codes => x.length) 2220 (ls.map leafLine) (fun x hx => by
    obtain ⟨a, ham, rfl⟩ := List.mem_map.mp hx
    have h2 := leafLine_len (hs a ham)
    have h3 := (hs a ham).1
    omega)
  rw [List.length_map] at h1
  have e2 : (ls.map fun ps => D.str (leafLine ps)) = (ls.map leafLine).map D.str := by rw [List.map_map]; rfl
  unfold m_l_line b_l_line
  simp only [fnK, mBm, mCons, mFz, mLc, mIter, mVar, mC, Rs.bind, Rs.of, sRet, isStr, itemsOf, List.length_cons, List.length_nil, List.map_cons, List.map_nil, List.replicate, List.cons_append, List.nil_append, List.getElem?_cons_zero, wipeE, List.set_cons_succ, List.set_cons_zero, List.length_map, if_true]
  rw [if_pos (by omega), hlc, e2]
  simp only [dJoin, asQ, strsOf_map, mNil]
  rw [if_pos (by
    rw [List.length_map]
    simp only [List.length_cons, List.length_nil]
    omega)]
  rfl

end
end My
namespace My
open PySem PySem.Spec PyProof.Rows L2
section
variable {P : Program} [hP : OkP fileS P] {w : World} {K : PySem.W.Frag} {mg : Str → Option Value} {base : Heap}
/-! ### the law's normal forms, and what it asks of them -/
theorem p_l_low {l : Codes} {μ : Store} (h : okT l = true) : m_l_low [.str l] μ = .ok (.str (plainL l)) μ := mTxt_eq h
theorem p_le_low_leaf {q : Pair} {x : Option D} {μ : Store} (h2 : okT q.2 = true) : le_l_low_leaf_1 [x, some (.str q.1), some (.str q.2)] μ = .ok (pairD (q.1, plainL q.2)) μ := by
  unfold le_l_low_leaf_1
  simp only [fnK, fnKX, mOp, mVar, mC, mCall, mCallK, mCons, mNil, mTest, mNot, mAnd, mOr, mAndV, mOrV, mNotV, mNeg, mIf, mTup, mLst, mFz, mCell, mCat, mCb, mCc, mBm, mBc, mSl, mPart, mNoP, mChain, mIter, mRange1, mRange2, mEnum, mApp, mPop, Option.isSome_some, mLc, sSeq, sIf, sRet, sDrop, sAsg, sPar, sPar3, sFor, sWhile, sNext, sRetN, sSetIx, Rs.bind, Rs.of, isStr, tgName, tgT, tgCons, tgNil, wipeE, itemsOf, asL, asS, asQ, dAdd, dSub, dMul, dMod, dDiv, dPow, dLt, dLe, dGt, dGe, dEq, dNe, bEq, dIn, dNi, dIs, dIsn, bIs, isNon, dIx, dSl, dLen, dInt, dAll, dAny, dSum, dMax, dMin, dIsi, dIsiC, dSlV, dLtA, clsOf, mRev, mXfld, Rs.nr, sRetX, sDropX, sAsgX, sRaise, sTryAs, dTuple, lList, dStrip, dLower, dUpper, dFind, dRemPre, lSplit, dJoin, strsOf_map, blsOf_map, intsOf_map, List.length_cons, List.length_nil, List.map_cons, List.map_nil, List.replicate, List.cons_append, List.nil_append, List.append_nil, List.getElem?_cons_zero, List.getElem?_cons_succ, List.set_cons_zero, List.set_cons_succ, Option.map_some, Option.map_none, Option.bind_some, Nat.reduceAdd, if_true, if_false, Bool.false_eq_true, Bool.not_true, Bool.not_false, reduceIte, reduceCtorEq, p_l_low h2]
  all_goals rfl
theorem p_low_leaf {μ : Store} {ps : List Pair} (h : okLeaf ps) (ha : ∀ q ∈ ps, asc q.1 ∧ asc q.2) : m_l_low_leaf [llfD ps] μ = .ok (.str (normLeaf ps)) μ := by
  have hl := h.1
  have hs := okPair_short (b := 100) (by decide) h
  have hT : ∀ q ∈ ps, okT q.2 = true := fun q hq => okT_iff.mpr ⟨(ha q hq).2, by have := (hs.2 q hq).2; omega⟩
  have hlc : lcGo none (tgT 2 (tgCons (tgName 1) (tgCons (tgName 2) tgNil))) (mC true) le_l_low_leaf_1 [some (llfD ps), none, none] (ps.map pairD) μ = .ok (ps.map fun q => pairD (q.1, plainL q.2)) μ := lcGo_mapM pairD (fun q => pairD (q.1, plainL q.2)) ps fun q hq => ⟨[some (llfD ps), some (.str q.1), some (.str q.2)], rfl, rfl, p_le_low_leaf (hT q hq)⟩
  have e2 : (ps.map fun q => pairD (q.1, plainL q.2)) = (lowP ps).map pairD := by unfold lowP; rw [List.map_map]; rfl
  have e3 : lSorted μ [.lst ((lowP ps).map pairD)] = some ((sortP (lowP ps)).map pairD) := by
    unfold lSorted sortP
    simp only [asS]
    rw [if_pos (by rw [List.all_map, List.all_eq_true]; exact fun q _ => rfl)]
    exact congrArg some (sortO_map (lt := fun a b : Pair => kyLt [a.1, a.2] [b.1, b.2]) (lt2 := fun a b => kyLt (kyD a) (kyD b)) pairD (fun x y => rfl) (lowP ps)).symm
  have hx : itemsOf μ (.lst ((sortP (lowP ps)).map pairD)) = some ((sortP (lowP ps)).map pairD, none) := rfl
  unfold m_l_low_leaf b_l_low_leaf
  simp only [fnK, mCall, mCc, mCons, mNil, mFz, mLc, mIter, mVar, Rs.bind, Rs.of, sRet, List.length_cons, List.length_nil, List.map_cons, List.map_nil, List.replicate, List.cons_append, List.nil_append, List.getElem?_cons_zero, wipeE, List.set_cons_succ, List.set_cons_zero, if_true]
  rw [show itemsOf μ (llfD ps) = some (ps.map pairD, none) from rfl]
  dsimp only
  rw [if_pos (by rw [List.length_map]; omega), hlc, e2]
  dsimp only
  rw [e3]
  dsimp only
  rw [p_leaf_line hx (sortP_short hs)]
  all_goals rfl

end
end My
namespace My
open PySem PySem.Spec PyProof.Rows L2
section
variable {P : Program} [hP : OkP fileS P] {w : World} {K : PySem.W.Frag} {mg : Str → Option Value} {base : Heap}
theorem p_low_line {μ : Store} {ls : List (List Pair)} (h : okName ls) (ha : ∀ ps ∈ ls, ∀ q ∈ ps, asc q.1 ∧ asc q.2) : m_l_low_line [lnmD (some ls)] μ = .ok (.str (normName ls)) μ := by
  have hl := h.1
  have hlc : lcGo none (tgName 1) (mC true) le_l_low_line_1 [some (lnmD (some ls)), none] (ls.map llfD) μ = .ok (ls.map fun ps => .str (normLeaf ps)) μ := lcGo_mapM llfD (fun ps => .str (normLeaf ps)) ls fun ps hps => ⟨[some (lnmD (some ls)), some (llfD ps)], rfl, rfl, by
    unfold le_l_low_line_1
    simp only [fnK, fnKX, mOp, mVar, mC, mCall, mCallK, mCons, mNil, mTest, mNot, mAnd, mOr, mAndV, mOrV, mNotV, mNeg, mIf, mTup, mLst, mFz, mCell, mCat, mCb, mCc, mBm, mBc, mSl, mPart, mNoP, mChain, mIter, mRange1, mRange2, mEnum, mApp, mPop, Option.isSome_some, mLc, sSeq, sIf, sRet, sDrop, sAsg, sPar, sPar3, sFor, sWhile, sNext, sRetN, sSetIx, Rs.bind, Rs.of, isStr, tgName, tgT, tgCons, tgNil, wipeE, itemsOf, asL, asS, asQ, dAdd, dSub, dMul, dMod, dDiv, dPow, dLt, dLe, dGt, dGe, dEq, dNe, bEq, dIn, dNi, dIs, dIsn, bIs, isNon, dIx, dSl, dLen, dInt, dAll, dAny, dSum, dMax, dMin, dIsi, dIsiC, dSlV, dLtA, clsOf, mRev, mXfld, Rs.nr, sRetX, sDropX, sAsgX, sRaise, sTryAs, dTuple, lList, dStrip, dLower, dUpper, dFind, dRemPre, lSplit, dJoin, strsOf_map, blsOf_map, intsOf_map, List.length_cons, List.length_nil, List.map_cons, List.map_nil, List.replicate, List.cons_append, List.nil_append, List.append_nil, List.getElem?_cons_zero, List.getElem?_cons_succ, List.set_cons_zero, List.set_cons_succ, Option.map_some, Option.map_none, Option.bind_some, Nat.reduceAdd, if_true, if_false, Bool.false_eq_true, Bool.not_true, Bool.not_false, reduceIte, reduceCtorEq, p_low_leaf (h.2 ps hps) (ha ps hps)]⟩
  have e2 : (ls.map fun ps => D.str (normLeaf ps)) = (ls.map normLeaf).map D.str := by rw [List.map_map]; rfl
  have hn := (normName_len h).2
  unfold m_l_low_line b_l_low_line
  simp only [fnK, mBm, mCons, mNil, mFz, mLc, mIter, mVar, mC, Rs.bind, Rs.of, sRet, isStr, List.length_cons, List.length_nil, List.map_cons, List.map_nil, List.replicate, List.cons_append, List.nil_append, List.getElem?_cons_zero, wipeE, List.set_cons_succ, List.set_cons_zero, if_true]
  rw [show itemsOf μ (lnmD (some ls)) = some (ls.map llfD, none) from rfl]
  dsimp only
  rw [if_pos (by rw [List.length_map]; omega), hlc, e2]
  simp only [dJoin, asQ, strsOf_map]
  rw [if_pos (by
    rw [List.length_map]
    simp only [List.length_cons, List.length_nil]
    omega)]
  all_goals rfl

end
end My
namespace My
open PySem PySem.Spec PyProof.Rows L2
section
variable {P : Program} [hP : OkP fileS P] {w : World} {K : PySem.W.Frag} {mg : Str → Option Value} {base : Heap}
/-! ### what the models of Name tell -/
theorem p_order_of {μ : Store} {ls : List (List Pair)} (h : okName ls) (ha : ∀ ps ∈ ls, ∀ q ∈ ps, asc q.1 ∧ asc q.2) : m_order_of [nameD (some ls)] μ = .ok (.tup ((ordL ls).map D.str)) μ := by
  have hl := h.1
  have hlc : lcGo none (tgName 1) (mC true) le_order_of_1 [some (nameD (some ls)), none] (ls.reverse.map leafD) μ = .ok (ls.reverse.map fun ps => .str (normLeaf ps)) μ := lcGo_mapM leafD (fun ps => .str (normLeaf ps)) ls.reverse fun ps hps => ⟨[some (nameD (some ls)), some (leafD ps)], rfl, rfl, by
    have hp := List.mem_reverse.mp hps
    unfold le_order_of_1
    simp only [fnK, fnKX, mOp, mVar, mC, mCall, mCallK, mCons, mNil, mTest, mNot, mAnd, mOr, mAndV, mOrV, mNotV, mNeg, mIf, mTup, mLst, mFz, mCell, mCat, mCb, mCc, mBm, mBc, mSl, mPart, mNoP, mChain, mIter, mRange1, mRange2, mEnum, mApp, mPop, Option.isSome_some, mLc, sSeq, sIf, sRet, sDrop, sAsg, sPar, sPar3, sFor, sWhile, sNext, sRetN, sSetIx, Rs.bind, Rs.of, isStr, tgName, tgT, tgCons, tgNil, wipeE, itemsOf, asL, asS, asQ, dAdd, dSub, dMul, dMod, dDiv, dPow, dLt, dLe, dGt, dGe, dEq, dNe, bEq, dIn, dNi, dIs, dIsn, bIs, isNon, dIx, dSl, dLen, dInt, dAll, dAny, dSum, dMax, dMin, dIsi, dIsiC, dSlV, dLtA, clsOf, mRev, mXfld, Rs.nr, sRetX, sDropX, sAsgX, sRaise, sTryAs, dTuple, lList, dStrip, dLower, dUpper, dFind, dRemPre, lSplit, dJoin, strsOf_map, blsOf_map, intsOf_map, List.length_cons, List.length_nil, List.map_cons, List.map_nil, List.replicate, List.cons_append, List.nil_append, List.append_nil, List.getElem?_cons_zero, List.getElem?_cons_succ, List.set_cons_zero, List.set_cons_succ, Option.map_some, Option.map_none, Option.bind_some, Nat.reduceAdd, if_true, if_false, Bool.false_eq_true, Bool.not_true, Bool.not_false, reduceIte, reduceCtorEq, p_normal_leaf (h.2 ps hp) (ha ps hp)]⟩
  have e2 : (ls.reverse.map fun ps => D.str (normLeaf ps)) = (ordL ls).map D.str := by unfold ordL; rw [List.map_map]; rfl
  have e3 : (ls.map leafD).reverse = ls.reverse.map leafD := List.map_reverse.symm
  unfold m_order_of b_order_of
  simp only [fnK, fnKX, mOp, mVar, mC, mCall, mCallK, mCons, mNil, mTest, mNot, mAnd, mOr, mAndV, mOrV, mNotV, mNeg, mIf, mTup, mLst, mFz, mCell, mCat, mCb, mCc, mBm, mBc, mSl, mPart, mNoP, mChain, mIter, mRange1, mRange2, mEnum, mApp, mPop, Option.isSome_some, mLc, sSeq, sIf, sRet, sDrop, sAsg, sPar, sPar3, sFor, sWhile, sNext, sRetN, sSetIx, Rs.bind, Rs.of, isStr, tgName, tgT, tgCons, tgNil, wipeE, itemsOf, asL, asS, asQ, dAdd, dSub, dMul, dMod, dDiv, dPow, dLt, dLe, dGt, dGe, dEq, dNe, bEq, dIn, dNi, dIs, dIsn, bIs, isNon, dIx, dSl, dLen, dInt, dAll, dAny, dSum, dMax, dMin, dIsi, dIsiC, dSlV, dLtA, clsOf, mRev, mXfld, Rs.nr, sRetX, sDropX, sAsgX, sRaise, sTryAs, dTuple, lList, dStrip, dLower, dUpper, dFind, dRemPre, lSplit, dJoin, strsOf_map, blsOf_map, intsOf_map, List.length_cons, List.length_nil, List.map_cons, List.map_nil, List.replicate, List.cons_append, List.nil_append, List.append_nil, List.getElem?_cons_zero, List.getElem?_cons_succ, List.set_cons_zero, List.set_cons_succ, Option.map_some, Option.map_none, Option.bind_some, Nat.reduceAdd, if_true, if_false, Bool.false_eq_true, Bool.not_true, Bool.not_false, reduceIte, reduceCtorEq]
  rw [show nameD (some ls) = .tup (ls.map leafD) from rfl] at hlc ⊢
  simp only [fnK, fnKX, mOp, mVar, mC, mCall, mCallK, mCons, mNil, mTest, mNot, mAnd, mOr, mAndV, mOrV, mNotV, mNeg, mIf, mTup, mLst, mFz, mCell, mCat, mCb, mCc, mBm, mBc, mSl, mPart, mNoP, mChain, mIter, mRange1, mRange2, mEnum, mApp, mPop, Option.isSome_some, mLc, sSeq, sIf, sRet, sDrop, sAsg, sPar, sPar3, sFor, sWhile, sNext, sRetN, sSetIx, Rs.bind, Rs.of, isStr, tgName, tgT, tgCons, tgNil, wipeE, itemsOf, asL, asS, asQ, dAdd, dSub, dMul, dMod, dDiv, dPow, dLt, dLe, dGt, dGe, dEq, dNe, bEq, dIn, dNi, dIs, dIsn, bIs, isNon, dIx, dSl, dLen, dInt, dAll, dAny, dSum, dMax, dMin, dIsi, dIsiC, dSlV, dLtA, clsOf, mRev, mXfld, Rs.nr, sRetX, sDropX, sAsgX, sRaise, sTryAs, dTuple, lList, dStrip, dLower, dUpper, dFind, dRemPre, lSplit, dJoin, strsOf_map, blsOf_map, intsOf_map, List.length_cons, List.length_nil, List.map_cons, List.map_nil, List.replicate, List.cons_append, List.nil_append, List.append_nil, List.getElem?_cons_zero, List.getElem?_cons_succ, List.set_cons_zero, List.set_cons_succ, Option.map_some, Option.map_none, Option.bind_some, Nat.reduceAdd, if_true, if_false, Bool.false_eq_true, Bool.not_true, Bool.not_false, reduceIte, reduceCtorEq, e3, List.length_map, List.length_reverse]
  rw [if_pos (by omega), hlc, e2]
/-- the name of some leaves, with its text -/
def nmT (l : Codes) (ls : List (List Pair)) : D := .obj "Name" ["own_text", "own_leaves", "own_order"] [.str l, nameD (some ls), .tup ((ordL ls).map D.str)]
def nmO (ls : List (List Pair)) : D := nmT (lineL ls) ls
theorem pure_leaves : ∀ ls : List (List Pair), pureL (ls.map leafD) = true
  | [] => rfl
  | ps :: ls => by
    show (pureD (leafD ps) && pureL (ls.map leafD)) = true
    rw [pure_leaves ls]
    have : ∀ ps : List Pair, pureL (ps.map pairD) = true := by
      intro ps
      induction ps with
      | nil => rfl
      | cons _ _ ih => exact ih
    rw [show pureD (leafD ps) = pureL (ps.map pairD) from rfl, this ps]
    rfl
theorem ctab_name : ctab.names.contains "Name" = true := by decide
theorem ctab_f1 : ctab.fields.contains "own_text" = true := by decide
theorem ctab_f2 : ctab.fields.contains "own_leaves" = true := by decide
theorem ctab_f3 : ctab.fields.contains "own_order" = true := by decide
theorem p_init {μ : Store} {l : Codes} {ls : List (List Pair)} (hl : okT l = true) (hn : lawName l = some ls) : m_Name___init [.ref μ.length, .str l] (μ ++ [.obj "Name" [] []]) = .ok .non (μ ++ [.obj "Name" ["own_text", "own_leaves", "own_order"] [.str l, nameD (some ls), .tup ((ordL ls).map D.str)]]) := by
  obtain ⟨h1, h2⟩ := lawName_ok hn
  have h3 := p_order_of (μ := μ ++ [.obj "Name" ["own_text", "own_leaves"] [.str l, nameD (some ls)]]) h1 (h2 (okT_iff.mp hl).1)
  have hr := p_read_name (μ := μ ++ [.obj "Name" [] []]) hl
  rw [hn] at hr
  have g : ∀ c : Cell, (μ ++ [c])[μ.length]? = some c := fun c => st1_g0
  have s : ∀ c d : Cell, (μ ++ [c]).set μ.length d = μ ++ [d] := fun c d => by
    rw [List.set_append_right _ _ (by omega)]
    simp
  have q1 : pureD (.tup (ls.map leafD)) = true := pure_leaves ls
  have q2 : pureD (.tup ((ordL ls).map D.str)) = true := pure_strs _
  rw [show nameD (some ls) = D.tup (ls.map leafD) from rfl] at h3 hr ⊢
  have p1 : pureD (.str l) = true := rfl
  unfold m_Name___init b_Name___init
  simp only [fnK, fnKX, mOp, mVar, mC, mCall, mCallK, mCons, mNil, mTest, mNot, mAnd, mOr, mAndV, mOrV, mNotV, mNeg, mIf, mTup, mLst, mFz, mCell, mCat, mCb, mCc, mBm, mBc, mSl, mPart, mNoP, mChain, mIter, mRange1, mRange2, mEnum, mApp, mPop, Option.isSome_some, mLc, sSeq, sIf, sRet, sDrop, sAsg, sPar, sPar3, sFor, sWhile, sNext, sRetN, sSetIx, Rs.bind, Rs.of, isStr, tgName, tgT, tgCons, tgNil, wipeE, itemsOf, asL, asS, asQ, dAdd, dSub, dMul, dMod, dDiv, dPow, dLt, dLe, dGt, dGe, dEq, dNe, bEq, dIn, dNi, dIs, dIsn, bIs, isNon, dIx, dSl, dLen, dInt, dAll, dAny, dSum, dMax, dMin, dIsi, dIsiC, dSlV, dLtA, clsOf, mRev, mXfld, Rs.nr, sRetX, sDropX, sAsgX, sRaise, sTryAs, dTuple, lList, dStrip, dLower, dUpper, dFind, dRemPre, lSplit, dJoin, strsOf_map, blsOf_map, intsOf_map, List.length_cons, List.length_nil, List.map_cons, List.map_nil, List.replicate, List.cons_append, List.nil_append, List.append_nil, List.getElem?_cons_zero, List.getElem?_cons_succ, List.set_cons_zero, List.set_cons_succ, Option.map_some, Option.map_none, Option.bind_some, Nat.reduceAdd, if_true, if_false, Bool.false_eq_true, Bool.not_true, Bool.not_false, reduceIte, reduceCtorEq, hr]
  simp only [sSetF, mVar, mCall, mCons, mNil, Rs.bind, g, s, List.getElem?_cons_zero, List.getElem?_cons_succ, p1, q1, q2, ctab_name, ctab_f1, ctab_f2, ctab_f3, List.length_nil, List.length_cons, and_self, Nat.reduceLT, Nat.reduceAdd, if_true, putC, String.reduceEq, if_false, h3]
theorem p_make {m : Mo D} {env : En} {μ μ1 : Store} {l : Codes} {ls : List (List Pair)} (h : m env μ = .ok (.str l) μ1) (hl : okT l = true) (hn : lawName l = some ls) :
    mMakeP false "Name" m_Name___init 1 0 [0, 1] [D.str []] (mC (D.cls "Name")) (mCons m mNil) mNil env μ = .ok (nmT l ls) μ1 := by
  have e := p_init (μ := μ1) hl hn
  simp only [mMakeP, mC, mCons, mNil, Rs.bind, h, if_true, List.length_cons, List.length_nil, and_self, Nat.reduceAdd]
  rw [show perm [0, 1] (D.ref μ1.length :: [D.str l] ++ [D.str []] ++ []) = [.ref μ1.length, .str l] from rfl, e]
  simp only [Bool.false_eq_true, if_false, st1_g0, frzC]
  rw [List.take_left' rfl]
  rfl
theorem p_makeN {m : Mo D} {env : En} {μ μ1 : Store} {ls : List (List Pair)} (h : m env μ = .ok (.str (lineL ls)) μ1) (g : gNm ls) :
    mMakeP false "Name" m_Name___init 1 0 [0, 1] [D.str []] (mC (D.cls "Name")) (mCons m mNil) mNil env μ = .ok (nmO ls) μ1 := p_make h (okT_iff.mpr ⟨lineL_asc g.asc, by have := g.lineLen; omega⟩) g.read
/-! what is asked of names -/
theorem fld_order {o : Mo D} {env : En} {μ μ1 : Store} {l : Codes} {ls : List (List Pair)} (h : o env μ = .ok (nmT l ls) μ1) : mFld ctab "own_order" o env μ = .ok (.tup ((ordL ls).map D.str)) μ1 := by
  simp only [mFld, Rs.bind, h, nmT, clsOf, ctab_name, ctab_f3, and_self, if_true]
  rfl
theorem depth_tup (xs : List Codes) : (PyData.tuple (xs.map dS)).depth ≤ 8 := by
  simp [PyData.depth, depth_dS]
theorem shaped_strs {xs : List Codes} (h : ∀ x ∈ xs, asc x) : SeqAt.shaped (.tuple (xs.map dS)) = true := by
  have : ∀ xs : List Codes, (∀ x ∈ xs, asc x) → PyData.canLayAll0 (xs.map dS) = true := by
    intro xs
    induction xs with
    | nil => intro _; simp [PyData.canLayAll0]
    | cons x xs ih =>
      intro h
      rw [List.map_cons]
      simp only [PyData.canLayAll0, ih fun y hy => h y (List.mem_cons_of_mem _ hy), Bool.and_true]
      simp only [dS, PyData.canLay0]
      exact strOk_asc (h x List.mem_cons_self)
  unfold SeqAt.shaped
  simp [PyData.canLay0, this xs h, depth_dS, PyData.depth]
theorem eqvAll_dS : ∀ xs ys : List Codes, PyData.eqvAll (xs.map dS) (ys.map dS) = decide (xs = ys)
  | [], [] => by simp [PyData.eqvAll]
  | [], y :: ys => by simp [PyData.eqvAll]
  | x :: xs, [] => by simp [PyData.eqvAll]
  | x :: xs, y :: ys => by
    rw [List.map_cons, List.map_cons, PySem.W.eqv_all_cons, eqv_dS, eqvAll_dS xs ys]
    by_cases h : x = y <;> by_cases h2 : xs = ys <;> simp [h, h2]
theorem bEq_tups {μ : Store} {xs ys : List Codes} (hx : ∀ x ∈ xs, asc x) (hy : ∀ x ∈ ys, asc x) : bEq μ (.tup (xs.map D.str)) (.tup (ys.map D.str)) = some (decide (xs = ys)) := by
  have h1 : ∀ xs : List Codes, toDataS μ (.tup (xs.map D.str)) = some (.tuple (xs.map dS)) := fun xs => by show (toDataL _).map _ = _; rw [toDataL_strs]; rfl
  simp only [bEq, h1, if_pos (show SeqAt.shaped (.tuple (xs.map dS)) = true ∧ SeqAt.shaped (.tuple (ys.map dS)) = true from ⟨shaped_strs hx, shaped_strs hy⟩), PyData.eqv, eqvAll_dS]
theorem plainL_asc {l : Codes} (h : asc l) : asc (plainL l) := by
  have h1 : asc (lowT l) := lowT_ind (p := asc) (fun c => c < 128) (by rfl) (fun X c hX hc => by
    unfold lowStep
    split
    · exact asc_app hX (asc_one (lo1_asc c hc))
    · exact hX) l (fun c hc => of_decide_eq_true (List.all_eq_true.mp h c hc))
  rw [plain_lowT]
  unfold lowEnd
  split
  · exact asc_sub (fun c hc => List.dropLast_subset _ hc) h1
  · exact h1
theorem normLeaf_asc {ps : List Pair} (h : ∀ q ∈ ps, asc q.1 ∧ asc q.2) : asc (normLeaf ps) := by
  unfold normLeaf
  refine leafLine_asc fun q hq => ?_
  obtain ⟨a, ha, rfl⟩ := lowLf_mem (ps := ps) hq
  exact ⟨(h a ha).1, plainL_asc (h a ha).2⟩
theorem ordL_asc {ls : List (List Pair)} (h : ∀ ps ∈ ls, ∀ q ∈ ps, asc q.1 ∧ asc q.2) : ∀ x ∈ ordL ls, asc x := fun x hx => by
  obtain ⟨ps, hp, rfl⟩ := List.mem_map.mp hx
  exact normLeaf_asc (h ps (List.mem_reverse.mp hp))
theorem p_eq {μ : Store} {l k : Codes} {a b : List (List Pair)} (ha : ∀ ps ∈ a, ∀ q ∈ ps, asc q.1 ∧ asc q.2) (hb : ∀ ps ∈ b, ∀ q ∈ ps, asc q.1 ∧ asc q.2) : m_Name___eq [nmT l a, nmT k b] μ = .ok (.bl (decide (ordL a = ordL b))) μ := by
  have h0 : dIsiC ctab μ [nmT k b, .cls "Name"] = some (.bl true) := by
    simp only [dIsiC, nmT, clsOf]
    rw [if_pos ⟨ctab_name, ctab_name⟩]
    rfl
  unfold m_Name___eq b_Name___eq
  simp only [fnK, mOp, mAndV, mCb, mCons, mNil, mC, mVar, sRet, List.length_cons, List.length_nil, List.map_cons, List.map_nil, List.replicate, List.append_nil, Rs.bind, Rs.of, if_true, Nat.reduceAdd, List.getElem?_cons_zero, List.getElem?_cons_succ, h0]
  rw [fld_order (l := l) (ls := a) (μ1 := μ) rfl]
  dsimp only
  rw [fld_order (l := k) (ls := b) (μ1 := μ) rfl]
  simp only [dEq, bEq_tups (ordL_asc ha) (ordL_asc hb), Option.map_some]
theorem cut_take {xs : List D} {n : Nat} : cutD xs none (some (n : Int)) = xs.take n := by
  unfold cutD
  simp only [HT.sIx, List.drop_zero, Nat.sub_zero]
  have h : ¬ ((n : Int) < 0) := by omega
  rw [if_neg h, Int.toNat_natCast]
  by_cases h2 : n ≤ xs.length
  · rw [Nat.min_eq_left h2]
  · rw [Nat.min_eq_right (by omega), List.take_of_length_le (Nat.le_refl _), List.take_of_length_le (by omega)]

end
end My
namespace My
open PySem PySem.Spec PyProof.Rows L2
section
variable {P : Program} [hP : OkP fileS P] {w : World} {K : PySem.W.Frag} {mg : Str → Option Value} {base : Heap}
/-! ### names met by the law -/
def lsD (ls : List (List Pair)) : D := .lst (ls.map llfD)
section
variable {o p : Mo D} {env : En} {μ μ1 μ2 : Store} {l k : Codes} {a b : List (List Pair)}
theorem v_eq {neg : Bool} (ha : ∀ ps ∈ a, ∀ q ∈ ps, asc q.1 ∧ asc q.2) (hb : ∀ ps ∈ b, ∀ q ∈ ps, asc q.1 ∧ asc q.2) (h : o env μ = .ok (nmT l a) μ1) (h2 : p env μ1 = .ok (nmT k b) μ2) : mEqA ctab neg eqTab o p env μ = .ok (.bl (if neg = true then !decide (ordL a = ordL b) else decide (ordL a = ordL b))) μ2 := by
  have e := p_eq (μ := μ2) (l := l) (k := k) ha hb
  unfold nmT at h h2 e
  simp only [mEqA, Rs.bind, h, h2, clsOf, ctab_name, eqTab, List.lookup_cons, beq_self_eq_true, Bool.true_or, and_self, if_true, e]
end
/-- plain values beside -/
theorem v_eqB {neg : Bool} {o p : Mo D} {env : En} {μ μ1 μ2 : Store} {x y : Bool} (h : o env μ = .ok (.bl x) μ1) (h2 : p env μ1 = .ok (.bl y) μ2) : mEqA ctab neg eqTab o p env μ = .ok (.bl (if neg = true then !(x == y) else (x == y))) μ2 := by
  cases neg <;> simp only [mEqA, Rs.bind, Rs.of, h, h2, clsOf, dNe, dEq, bEq, Option.map_some, if_true, Bool.false_eq_true, if_false]

end
end My
namespace My
open PySem PySem.Spec PyProof.Rows L2
section
variable {P : Program} [hP : OkP fileS P] {w : World} {K : PySem.W.Frag} {mg : Str → Option Value} {base : Heap}
/-! ### properties of names -/
theorem v_prop {f : List D → Store → Rs D} {o : Mo D} {env : En} {μ μ1 : Store} {l : Codes} {ls : List (List Pair)} (h : o env μ = .ok (nmT l ls) μ1) : mPropP ctab ["Name"] f o env μ = f [nmT l ls] μ1 := by
  simp only [mPropP, Rs.bind, h, nmT, clsOf, ctab_name, List.contains_cons, beq_self_eq_true, Bool.true_or, and_self, if_true]
theorem fld_text {o : Mo D} {env : En} {μ μ1 : Store} {l : Codes} {ls : List (List Pair)} (h : o env μ = .ok (nmT l ls) μ1) : mFld ctab "own_text" o env μ = .ok (.str l) μ1 := by
  simp only [mFld, Rs.bind, h, nmT, clsOf, ctab_name, ctab_f1, and_self, if_true]
  rfl
theorem fld_leaves {o : Mo D} {env : En} {μ μ1 : Store} {l : Codes} {ls : List (List Pair)} (h : o env μ = .ok (nmT l ls) μ1) : mFld ctab "own_leaves" o env μ = .ok (.tup (ls.map leafD)) μ1 := by
  simp only [mFld, Rs.bind, h, nmT, clsOf, ctab_name, ctab_f2, and_self, if_true]
  rfl
section
variable {μ : Store} {l : Codes} {ls : List (List Pair)}
theorem p_text : m_Name_text [nmT l ls] μ = .ok (.str l) μ := by
  have e : mFld ctab "own_text" (mVar 0) [some (nmT l ls)] μ = .ok (.str l) μ := fld_text (ls := ls) rfl
  unfold m_Name_text b_Name_text
  simp only [fnK, sRet, List.length_cons, List.length_nil, List.map_cons, List.map_nil, List.replicate, List.append_nil, Nat.reduceAdd, if_true, e]
theorem p_depth : m_Name_depth [nmT l ls] μ = .ok (.int (ls.length : Int)) μ := by
  have e : mFld ctab "own_leaves" (mVar 0) [some (nmT l ls)] μ = .ok (.tup (ls.map leafD)) μ := fld_leaves (l := l) rfl
  unfold m_Name_depth b_Name_depth
  simp only [fnK, sRet, mCb, mCons, mNil, Rs.bind, Rs.of, List.length_cons, List.length_nil, List.map_cons, List.map_nil, List.replicate, List.append_nil, Nat.reduceAdd, if_true, e, dLen, asQ, List.length_map]
theorem p_normal (h : okName ls) : m_Name_normal [nmT l ls] μ = .ok (.str (normName ls)) μ := by
  have e : mFld ctab "own_order" (mVar 0) [some (nmT l ls)] μ = .ok (.tup ((ordL ls).map D.str)) μ := fld_order (l := l) rfl
  have e2 : ((ordL ls).map D.str).reverse = (ls.map normLeaf).map D.str := by
    unfold ordL
    simp
  have hn := (normName_len h).2
  have hl := h.1
  unfold m_Name_normal b_Name_normal
  simp only [fnK, sRet, mBm, mRev, mC, mCons, mNil, Rs.bind, Rs.of, isStr, List.length_cons, List.length_nil, List.map_cons, List.map_nil, List.replicate, List.append_nil, Nat.reduceAdd, if_true, e, e2]
  simp only [dJoin, asQ, strsOf_map]
  rw [if_pos (by rw [List.length_map]; simp only [List.length_cons, List.length_nil]; omega)]
  rfl
end

end
end My
namespace My
open PySem PySem.Spec PyProof.Rows L2
section
variable {P : Program} [hP : OkP fileS P] {w : World} {K : PySem.W.Frag} {mg : Str → Option Value} {base : Heap}
/-! ### pairs as data -/
theorem toData_pairs : ∀ ps : List Pair, toDataL (ps.map pairD) = some (ps.map dP)
  | [] => rfl
  | q :: ps => by
    have e : toData (pairD q) = some (dP q) := rfl
    rw [List.map_cons, toDataL, e, toData_pairs ps]
    all_goals rfl

end
end My
namespace My
open PySem PySem.Spec PyProof.Rows L2
section
variable {P : Program} [hP : OkP fileS P] {w : World} {K : PySem.W.Frag} {mg : Str → Option Value} {base : Heap}
/-! ### pairs of a name -/
section
variable {μ : Store} {l : Codes} {ls : List (List Pair)}
theorem bNe_tup0 {ds : List D} {n : Nat} (hs : ∃ x, toDataL ds = some x ∧ SeqAt.shaped (.tuple x) = true ∧ x.length = n) : dNe μ (.tup ds) (.tup []) = some (.bl (decide (n ≠ 0))) := by
  obtain ⟨x, h1, h2, h3⟩ := hs
  have e1 : toDataS μ (.tup ds) = some (.tuple x) := by show (toDataL ds).map _ = _; rw [h1]; rfl
  have e2 : toDataS μ (.tup []) = some (.tuple []) := rfl
  simp only [dNe, bEq, e1, e2]
  rw [if_pos ⟨h2, by decide⟩]
  cases x with
  | nil => subst h3; rfl
  | cons q x => subst h3; simp [PyData.eqv, PyData.eqvAll]
theorem toDataL_leaves : ∀ ls : List (List Pair), toDataL (ls.map leafD) = some (ls.map fun ps => .tuple (ps.map dP))
  | [] => rfl
  | ps :: ls => by
    have e : toData (leafD ps) = some (.tuple (ps.map dP)) := by show (toDataL _).map _ = _; rw [toData_pairs]; rfl
    rw [List.map_cons, toDataL, e, toDataL_leaves ls]
    all_goals rfl
theorem shLv : ∀ {ls : List (List Pair)}, (∀ ps ∈ ls, ∀ q ∈ ps, asc q.1 ∧ asc q.2) → PyData.canLayAll0 (ls.map fun ps => PyData.tuple (ps.map dP)) = true ∧ PyData.depthAll (ls.map fun ps => PyData.tuple (ps.map dP)) ≤ 2
  | [], _ => ⟨rfl, Nat.zero_le _⟩
  | ps :: ls, h => by
    obtain ⟨h1, h2⟩ := shL (h ps List.mem_cons_self)
    obtain ⟨h3, h4⟩ := shLv (ls := ls) fun x hx => h x (List.mem_cons_of_mem _ hx)
    refine ⟨?_, ?_⟩
    · show (PyData.canLayAll0 (ps.map dP) && PyData.canLayAll0 _) = true
      rw [h1, h3]
      rfl
    · show max (PyData.depthAll (ps.map dP) + 1) (PyData.depthAll _) ≤ 2
      omega
theorem ne_leaves (h : ∀ ps ∈ ls, ∀ q ∈ ps, asc q.1 ∧ asc q.2) : dNe μ (.tup (ls.map leafD)) (.tup []) = some (.bl (decide (ls.length ≠ 0))) := by
  obtain ⟨h1, h2⟩ := shLv h
  refine bNe_tup0 ⟨_, toDataL_leaves ls, ?_, by rw [List.length_map]⟩
  show (PyData.canLayAll0 _ && decide (PyData.depthAll _ + 1 ≤ 64)) = true
  rw [h1, decide_eq_true (by omega)]
  rfl
theorem ix0 {d : D} {ds : List D} : dIx μ (.tup (d :: ds)) (.int 0) = some d := by
  simp [dIx, asQ, atI, ixN]
def pairsOf : List (List Pair) → List Pair
  | [] => []
  | ps :: _ => ps
theorem p_pairs_ (h : ∀ ps ∈ ls, ∀ q ∈ ps, asc q.1 ∧ asc q.2) : m_Name_pairs [nmT l ls] μ = .ok (leafD (pairsOf ls)) μ := by
  have e : mFld ctab "own_leaves" (mVar 0) [some (nmT l ls)] μ = .ok (.tup (ls.map leafD)) μ := fld_leaves (l := l) rfl
  have e1 := ne_leaves (μ := μ) h
  unfold m_Name_pairs b_Name_pairs
  cases ls with
  | nil =>
    simp only [List.map_nil] at e e1
    simp only [fnK, sRet, mIf, mTest, mOp, mTup, mNil, Rs.bind, Rs.of, List.length_cons, List.length_nil, List.map_cons, List.map_nil, List.replicate, List.append_nil, Nat.reduceAdd, Nat.zero_le, if_true, e, e1, decide_false, ne_eq, not_true_eq_false, Bool.false_eq_true, if_false]
    rfl
  | cons ps ls =>
    simp only [List.map_cons] at e e1
    simp only [fnK, sRet, mIf, mTest, mOp, mTup, mNil, mC, Rs.bind, Rs.of, List.length_cons, List.length_nil, List.map_cons, List.map_nil, List.replicate, List.append_nil, Nat.reduceAdd, Nat.zero_le, if_true, e, e1, ix0, ne_eq, Nat.add_one_ne_zero, not_false_eq_true, decide_true]
    rfl
end

end
end My
namespace My
open PySem PySem.Spec PyProof.Rows L2
section
variable {P : Program} [hP : OkP fileS P] {w : World} {K : PySem.W.Frag} {mg : Str → Option Value} {base : Heap}
/-! ### the name above -/
theorem cut_drop {xs : List D} {k : Nat} : cutD xs (some (k : Int)) none = xs.drop k := by
  unfold cutD
  simp only [HT.sIx]
  rw [if_neg (by omega), Int.toNat_natCast]
  by_cases h : k ≤ xs.length
  · rw [Nat.min_eq_left h, List.take_of_length_le (by rw [List.length_drop]; omega)]
  · rw [Nat.min_eq_right (by omega), List.drop_of_length_le (Nat.le_refl _), List.drop_of_length_le (by omega)]
    simp
section
variable {μ : Store} {l : Codes} {ls : List (List Pair)}
theorem p_name_text (g : gNm ls) : m_name_text [.tup (ls.map leafD)] μ = .ok (.str (lineL ls)) μ := by
  have hn := g.len
  have hs : ∀ ps ∈ ls, shortP 100 ps := fun ps hp => goodL_short (g.pr ps hp)
  have hlc : lcGo none (tgName 1) (mC true) le_name_text_1 [some (.tup (ls.map leafD)), none] (ls.map leafD) μ = .ok (ls.map fun ps => .str (leafLine ps)) μ := lcGo_mapM leafD (fun ps => .str (leafLine ps)) ls fun ps hps => ⟨[some (.tup (ls.map leafD)), some (leafD ps)], rfl, rfl, by
    unfold le_name_text_1
    simp only [fnK, fnKX, mOp, mVar, mC, mCall, mCallK, mCons, mNil, mTest, mNot, mAnd, mOr, mAndV, mOrV, mNotV, mIf, mTup, mLst, mFz, mCell, mCb, mCc, mBm, mBc, mSl, mPart, mNoP, mChain, mApp, mPop, Option.isSome_some, sSeq, sIf, sRet, sDrop, sAsg, sPar, sPar3, sFor, sWhile, sNext, sRetN, sSetIx, Rs.nr, sRetX, sDropX, sAsgX, sRaise, sTryAs, Rs.bind, Rs.of, isStr, tgName, tgT, tgCons, tgNil, wipeE, List.length_cons, List.length_nil, List.map_cons, List.map_nil, List.replicate, List.cons_append, List.nil_append, List.append_nil, List.getElem?_cons_zero, List.getElem?_cons_succ, List.set_cons_zero, List.set_cons_succ, Option.map_some, Option.map_none, Option.bind_some, Nat.reduceAdd, Nat.reduceLeDiff, if_true, if_false, Bool.false_eq_true, Bool.not_true, Bool.not_false, reduceIte, reduceCtorEq, p_leaf_text (x := leafD ps) (ps := ps) rfl (hs ps hps)]⟩
  have h1 := sum_le (fun x : Codes => x.length) 2220 (ls.map leafLine) (fun x hx => by
    obtain ⟨a, ham, rfl⟩ := List.mem_map.mp hx
    have h2 := leafLine_len (hs a ham)
    have h3 := (g.pr a ham).len
    have h4 : a.length * (22 + 2 * 100) ≤ 4 * (22 + 2 * 100) := Nat.mul_le_mul_right _ h3
    omega)
  rw [List.length_map] at h1
  have e2 : (ls.map fun ps => D.str (leafLine ps)) = (ls.map leafLine).map D.str := by rw [List.map_map]; rfl
  unfold m_name_text b_name_text
  simp only [fnK, fnKX, mOp, mVar, mC, mCall, mCallK, mCons, mNil, mTest, mNot, mAnd, mOr, mAndV, mOrV, mNotV, mIf, mTup, mLst, mFz, mCell, mCb, mCc, mBm, mBc, mSl, mPart, mNoP, mChain, mApp, mPop, Option.isSome_some, sSeq, sIf, sRet, sDrop, sAsg, sPar, sPar3, sFor, sWhile, sNext, sRetN, sSetIx, Rs.nr, sRetX, sDropX, sAsgX, sRaise, sTryAs, Rs.bind, Rs.of, isStr, tgName, tgT, tgCons, tgNil, wipeE, List.length_cons, List.length_nil, List.map_cons, List.map_nil, List.replicate, List.cons_append, List.nil_append, List.append_nil, List.getElem?_cons_zero, List.getElem?_cons_succ, List.set_cons_zero, List.set_cons_succ, Option.map_some, Option.map_none, Option.bind_some, Nat.reduceAdd, Nat.reduceLeDiff, if_true, if_false, Bool.false_eq_true, Bool.not_true, Bool.not_false, reduceIte, reduceCtorEq, mLc, mIter, itemsOf, List.length_map]
  rw [if_pos (by omega), hlc, e2]
  simp only [dJoin, asQ, strsOf_map]
  rw [if_pos (by
    rw [List.length_map]
    simp only [List.length_cons, List.length_nil]
    omega)]
  rfl
theorem p_parent (g : gNm ls) : m_Name_parent [nmT l ls] μ = .ok (nmO (ls.drop 1)) μ := by
  have e : mFld ctab "own_leaves" (mVar 0) [some (nmT l ls)] μ = .ok (.tup (ls.map leafD)) μ := fld_leaves (l := l) rfl
  have e1 := p_name_text (μ := μ) (g.tail 1)
  have mk := p_makeN (m := mCall m_name_text (mCons (mSl dSlV (mFld ctab "own_leaves" (mVar 0)) (mPart (mC (D.int 1))) mNoP) mNil)) (env := [some (nmT l ls)]) (μ := μ) (μ1 := μ) (ls := ls.drop 1) (by
    have c1 := cut_drop (xs := ls.map leafD) (k := 1)
    rw [← List.map_drop] at c1
    simp only [mCall, mCons, mNil, mSl, mPart, mNoP, mC, Rs.bind, Rs.of, e, dSlV, show ((1 : Nat) : Int) = 1 from rfl] at c1 ⊢
    simp only [c1, e1]) (g.tail 1)
  unfold m_Name_parent b_Name_parent
  simp only [fnK, sRet, List.length_cons, List.length_nil, List.map_cons, List.map_nil, List.replicate, List.append_nil, Nat.reduceAdd, if_true, mk]
end

end
end My
namespace My
open PySem PySem.Spec PyProof.Rows L2
section
variable {P : Program} [hP : OkP fileS P] {w : World} {K : PySem.W.Frag} {mg : Str → Option Value} {base : Heap}
/-! ### comparisons of lists -/
theorem bEq_lsts {μ : Store} {xs ys : List Codes} (hx : ∀ x ∈ xs, asc x) (hy : ∀ x ∈ ys, asc x) : bEq μ (.lst (xs.map D.str)) (.lst (ys.map D.str)) = some (decide (xs = ys)) := by
  have h1 : ∀ xs : List Codes, toDataS μ (.lst (xs.map D.str)) = some (.list (xs.map dS)) := fun xs => by show (toDataL _).map _ = _; rw [toDataL_strs]; rfl
  have hsh : ∀ {xs : List Codes}, (∀ x ∈ xs, asc x) → SeqAt.shaped (.list (xs.map dS)) = true := fun {xs} h => by
    have := shaped_strs h
    unfold SeqAt.shaped at this ⊢
    simpa [PyData.canLay0, PyData.depth] using this
  simp only [bEq, h1, if_pos (show SeqAt.shaped (.list (xs.map dS)) = true ∧ SeqAt.shaped (.list (ys.map dS)) = true from ⟨hsh hx, hsh hy⟩), PyData.eqv, eqvAll_dS]
theorem v_neS {neg : Bool} {o p : Mo D} {env : En} {μ μ1 μ2 : Store} {x y : Codes} (h : o env μ = .ok (.str x) μ1) (h2 : p env μ1 = .ok (.str y) μ2) : mEqA ctab neg eqTab o p env μ = .ok (.bl (if neg = true then !decide (x = y) else decide (x = y))) μ2 := by
  cases neg <;> simp only [mEqA, Rs.bind, Rs.of, h, h2, clsOf, dNe, dEq, bEq, Option.map_some, if_true, Bool.false_eq_true, if_false]
theorem toDataL_ls : ∀ ls : List (List Pair), toDataL (ls.map llfD) = some (ls.map fun ps => .list (ps.map dP))
  | [] => rfl
  | ps :: ls => by
    have e : toData (llfD ps) = some (.list (ps.map dP)) := by show (toDataL _).map _ = _; rw [toData_pairs]; rfl
    rw [List.map_cons, toDataL, e, toDataL_ls ls]
    all_goals rfl
theorem shLs : ∀ {ls : List (List Pair)}, (∀ ps ∈ ls, ∀ q ∈ ps, asc q.1 ∧ asc q.2) → PyData.canLayAll0 (ls.map fun ps => PyData.list (ps.map dP)) = true ∧ PyData.depthAll (ls.map fun ps => PyData.list (ps.map dP)) ≤ 2
  | [], _ => ⟨rfl, Nat.zero_le _⟩
  | ps :: ls, h => by
    obtain ⟨h1, h2⟩ := shL (h ps List.mem_cons_self)
    obtain ⟨h3, h4⟩ := shLs (ls := ls) fun x hx => h x (List.mem_cons_of_mem _ hx)
    refine ⟨?_, ?_⟩
    · show (PyData.canLayAll0 (ps.map dP) && PyData.canLayAll0 _) = true
      rw [h1, h3]
      rfl
    · show max (PyData.depthAll (ps.map dP) + 1) (PyData.depthAll _) ≤ 2
      omega
theorem bEq_none {μ : Store} {ls : List (List Pair)} (h : ∀ ps ∈ ls, ∀ q ∈ ps, asc q.1 ∧ asc q.2) : bEq μ (lsD ls) (.lst []) = some (decide (ls = [])) := by
  obtain ⟨h1, h2⟩ := shLs h
  have hs : SeqAt.shaped (.list (ls.map fun ps => PyData.list (ps.map dP))) = true := by
    show (PyData.canLayAll0 _ && decide (PyData.depthAll _ + 1 ≤ 64)) = true
    rw [h1, decide_eq_true (by omega)]
    rfl
  have e1 : toDataS μ (lsD ls) = some (.list (ls.map fun ps => .list (ps.map dP))) := by show (toDataL _).map _ = _; rw [toDataL_ls]; rfl
  have e2 : toDataS μ (.lst []) = some (.list []) := rfl
  unfold lsD at e1 ⊢
  simp only [bEq, e1, e2]
  rw [if_pos ⟨hs, by decide⟩]
  cases ls with
  | nil => rfl
  | cons q ps => simp [PyData.eqv, PyData.eqvAll]

end
end My
namespace My
open PySem PySem.Spec PyProof.Rows L2
section
variable {P : Program} [hP : OkP fileS P] {w : World} {K : PySem.W.Frag} {mg : Str → Option Value} {base : Heap}
theorem rng_of {μ μ' : Store} {m : Mo (List D)} {env : En} {n : Nat} (hn : n ≤ 1000) (h : m env μ = .ok [.int (n : Int)] μ') : mRange1 m env μ = .ok (rngL 0 n, none) μ' := by
  have hg : (-1000000 : Int) ≤ (n : Int) ∧ (n : Int) ≤ 1000000 := by omega
  simp only [mRange1, h, Rs.bind]
  rw [if_pos hg, Int.toNat_natCast]
theorem rngN_len (n : Nat) : (rngL 0 n).length = n := by simp [rngL]
theorem seq_nx {a b : MS} {env env1 : En} {μ μ1 : Store} (h : a env μ = .nx env1 μ1) : sSeq a b env μ = b env1 μ1 := by
  unfold sSeq
  rw [h]
theorem nat_of {i : Int} (h : 0 ≤ i) : ∃ m : Nat, i = (m : Int) := ⟨i.toNat, (Int.toNat_of_nonneg h).symm⟩

end
end My
namespace My
open PySem PySem.Spec PyProof.Rows L2
section
variable {P : Program} [hP : OkP fileS P] {w : World} {K : PySem.W.Frag} {mg : Str → Option Value} {base : Heap}
theorem gNm_low {ls : List (List Pair)} (g : gNm ls) : gNm (ls.map lowLf) := ⟨by rw [List.length_map]; exact g.len, fun ps hp => by
  obtain ⟨a, ha, rfl⟩ := List.mem_map.mp hp
  exact lowLf_good (g.pr a ha)⟩
theorem norm_ord {a b : List (List Pair)} (ga : gNm a) (gb : gNm b) : decide (normName a = normName b) = decide (ordL a = ordL b) := by
  apply decide_eq_decide.mpr
  constructor
  · intro h
    rw [norm_line, norm_line] at h
    have h1 := (gNm_low ga).read
    rw [h, (gNm_low gb).read] at h1
    exact ordL_low (Option.some.inj h1).symm
  · intro h
    unfold ordL at h
    rw [List.map_reverse, List.map_reverse] at h
    unfold normName
    rw [List.reverse_inj.mp h]

end
end My
namespace My
open PySem PySem.Spec PyProof.Rows L2
section
variable {P : Program} [hP : OkP fileS P] {w : World} {K : PySem.W.Frag} {mg : Str → Option Value} {base : Heap}
/-! ### strings of characters that matter -/
theorem prn_of {l : Codes} (h : l.all (fun c => decide (32 ≤ c ∧ c < 127)) = true) : prn l := fun c hc => of_decide_eq_true (List.all_eq_true.mp h c hc)
theorem prn_nil : prn [] := fun c hc => nomatch hc
def toldL : List Codes := [[120], [65], [92, 44], [98, 32, 99], [92, 32, 97], [92, 92], [120, 92, 32], [92, 61, 61]]
def someL : List Codes := [[97], [98], [61], [43], [44], [92], [32], [97, 61], [98, 61], [44, 97, 61], [43, 98, 61], [65], [120], [92, 44], [92, 32], [61, 97], [92, 92], [99, 110, 61, 97]]
theorem toldL_ok : ∀ x ∈ toldL, prn x ∧ x.length ≤ 3 := fun x hx => ⟨prn_of (List.all_eq_true.mp (show (toldL.all fun x => x.all (fun c => decide (32 ≤ c ∧ c < 127))) = true by decide) x hx), of_decide_eq_true (List.all_eq_true.mp (show (toldL.all fun x => decide (x.length ≤ 3)) = true by decide) x hx)⟩
theorem someL_ok : ∀ x ∈ someL, prn x ∧ x.length ≤ 4 := fun x hx => ⟨prn_of (List.all_eq_true.mp (show (someL.all fun x => x.all (fun c => decide (32 ≤ c ∧ c < 127))) = true by decide) x hx), of_decide_eq_true (List.all_eq_true.mp (show (someL.all fun x => decide (x.length ≤ 4)) = true by decide) x hx)⟩
theorem dAdd_str {a b : Codes} (h : a.length + b.length ≤ 100000) : ∀ μ : Store, dAdd μ (.str a) (.str b) = some (.str (a ++ b)) := fun μ => if_pos h
theorem p_dr1 {j n : Nat} {μ : Store} {f : Codes} {x1 x2 x4 x5 : Option D} (hf : prn f) (hl : f.length ≤ 1000) (hs : Src μ j (n + 3)) :
    ∃ f' y5 μ', lb_l_drawn_1 [some (.ref j), x1, x2, some (.str f), x4, x5] μ = .nx [some (.ref j), x1, x2, some (.str f'), x4, y5] μ' ∧ (prn f' ∧ f'.length ≤ f.length + 7) ∧ Drw μ j n μ' := by
  obtain ⟨t, μ1, e1, ht, d1⟩ := p_pickT (n := n + 2) (ls := toldL) hs (by decide) (by decide)
  obtain ⟨s, μ2, e2, hsm, d2⟩ := p_pickT (n := n + 1) (ls := [[44], [43]]) d1.src (by decide) (by decide)
  obtain ⟨b, μ3, e3, hb, d3⟩ := p_pickT (n := n) (ls := [[97, 61], [98, 61], [99, 110, 61]]) d2.src (by decide) (by decide)
  obtain ⟨t1, t2⟩ := toldL_ok t ht
  have hs1 : ∃ c, s = [c] ∧ (c = 44 ∨ c = 43) := by
    simp only [List.mem_cons, List.not_mem_nil, or_false] at hsm
    rcases hsm with rfl | rfl
    · exact ⟨44, rfl, .inl rfl⟩
    · exact ⟨43, rfl, .inr rfl⟩
  obtain ⟨c, rfl, hc⟩ := hs1
  have hb1 : prn b ∧ b.length ≤ 3 := by
    simp only [List.mem_cons, List.not_mem_nil, or_false] at hb
    rcases hb with rfl | rfl | rfl <;> exact ⟨prn_of (by decide), by decide⟩
  let k : Nat := if f = [] then 0 else 1
  have hk : (if decide (f = []) = true then (0 : Int) else 1) = (k : Int) := by
    by_cases h : f = [] <;> simp [h, k]
  have hk1 : k ≤ 1 := by
    show (if f = [] then 0 else 1) ≤ 1
    split <;> omega
  refine ⟨f ++ List.replicate k c ++ b ++ t, some (.str t), μ3, ?_, ⟨?_, ?_⟩, (d1.trans d2).trans d3⟩
  · have g1 : m_l_pick [.ref j, .lst [.str [120], .str [65], .str [92, 44], .str [98, 32, 99], .str [92, 32, 97], .str [92, 92], .str [120, 92, 32], .str [92, 61, 61]]] μ = .ok (.str t) μ1 := e1
    have g2 : m_l_pick [.ref j, .lst [.str [44], .str [43]]] μ1 = .ok (.str [c]) μ2 := e2
    have g3 : m_l_pick [.ref j, .lst [.str [97, 61], .str [98, 61], .str [99, 110, 61]]] μ2 = .ok (.str b) μ3 := e3
    have i1 : dInt μ2 [.bl (!decide (f = []))] = some (.int (k : Int)) := by
      by_cases h : f = []
      · subst h; rfl
      · rw [decide_eq_false h, show k = 1 from if_neg h]
        rfl
    have n1 : ∀ M : Store, dNe M (.str f) (.str []) = some (.bl (!decide (f = []))) := fun M => rfl
    have m1 : dMul μ2 (.str [c]) (.int (k : Int)) = some (.str (List.replicate k c)) := by
      show (if -100000 ≤ (k : Int) ∧ (k : Int) ≤ 100000 then some (D.str (List.replicate (k : Int).toNat c)) else none) = _
      rw [if_pos (by omega), Int.toNat_natCast]
    have hb2 := hb1.2
    have a1 := dAdd_str (a := f) (b := List.replicate k c) (by rw [List.length_replicate]; omega)
    have a2 := dAdd_str (a := f ++ List.replicate k c) (b := b) (by rw [List.length_append, List.length_replicate]; omega)
    have a3 := dAdd_str (a := f ++ List.replicate k c ++ b) (b := t) (by rw [List.length_append, List.length_append, List.length_replicate]; omega)
    unfold lb_l_drawn_1
    simp only [sSeq, sAsg, tgName, mOp, mCall, mCb, mCons, mNil, mFz, mLst, mC, mVar, Rs.bind, Rs.of, List.getElem?_cons_zero, List.getElem?_cons_succ, List.length_cons, List.length_nil, Nat.reduceAdd, Nat.reduceLeDiff, if_true, List.set_cons_zero, List.set_cons_succ, g1, g2, g3, n1, i1, m1, a1, a2, a3]
  · refine prn_app (prn_app (prn_app hf fun x hx => ?_) hb1.1) t1
    obtain ⟨_, rfl⟩ := List.mem_replicate.mp hx
    rcases hc with rfl | rfl <;> exact ⟨by decide, by decide⟩
  · simp only [List.length_append, List.length_replicate]
    have := hb1.2
    omega
theorem p_dr1L {j : Nat} {x1 x2 : Option D} : ∀ (ds : List D) (f : Codes) (x4 x5 : Option D) (μ : Store) (n : Nat), prn f → f.length + 7 * ds.length ≤ 1000 → Src μ j (n + 3 * ds.length) →
    ∃ f' y4 y5 μ', forGo none (tgName 4) lb_l_drawn_1 ds [some (.ref j), x1, x2, some (.str f), x4, x5] μ = .nx [some (.ref j), x1, x2, some (.str f'), y4, y5] μ' ∧ (prn f' ∧ f'.length ≤ f.length + 7 * ds.length) ∧ Drw μ j n μ'
  | [], f, x4, x5, μ, n, hf, hl, hs => ⟨f, x4, x5, μ, rfl, ⟨hf, Nat.le_refl _⟩, hs.refl⟩
  | d :: ds, f, x4, x5, μ, n, hf, hl, hs => by
    rw [List.length_cons] at hl hs
    obtain ⟨f1, y5, μ1, e1, ⟨p1, l1⟩, d1⟩ := p_dr1 (x1 := x1) (x2 := x2) (x4 := some d) (x5 := x5) (n := n + 3 * ds.length) hf (by omega) (hs.less (by omega))
    obtain ⟨f2, y4, y52, μ2, e2, ⟨p2, l2⟩, d2⟩ := p_dr1L (x1 := x1) (x2 := x2) ds f1 (some d) y5 μ1 n p1 (by omega) d1.src
    refine ⟨f2, y4, y52, μ2, ?_, ⟨p2, by rw [List.length_cons]; omega⟩, d1.trans d2⟩
    rw [forGo_nx (env1 := [some (.ref j), x1, x2, some (.str f), some d, x5]) rfl e1]
    exact e2
theorem p_dr2 {j n : Nat} {μ : Store} {f : Codes} {r : Int} {x4 x5 : Option D} (hf : prn f) (hl : f.length ≤ 1000) (hs : Src μ j (n + 1)) :
    ∃ f' μ', lb_l_drawn_2 [some (.ref j), some (.lst (someL.map D.str)), some (.int r), some (.str f), x4, x5] μ = .nx [some (.ref j), some (.lst (someL.map D.str)), some (.int r), some (.str f'), x4, x5] μ' ∧ (prn f' ∧ f'.length ≤ f.length + 4) ∧ Drw μ j n μ' := by
  let ls := if (0 : Int) < r then someL else someL.take 7
  have hls : 0 < ls.length ∧ ls.length ≤ 100000 ∧ ∀ x ∈ ls, x ∈ someL := by
    show 0 < (if (0 : Int) < r then someL else someL.take 7).length ∧ (if (0 : Int) < r then someL else someL.take 7).length ≤ 100000 ∧ ∀ x ∈ (if (0 : Int) < r then someL else someL.take 7), x ∈ someL
    split
    · exact ⟨by decide, by decide, fun x h => h⟩
    · exact ⟨by decide, by decide, fun x h => List.mem_of_mem_take h⟩
  obtain ⟨t, μ1, e1, ht, d1⟩ := p_pickT (n := n) (ls := ls) hs hls.1 hls.2.1
  obtain ⟨t1, t2⟩ := someL_ok t (hls.2.2 t ht)
  refine ⟨f ++ t, μ1, ?_, ⟨prn_app hf t1, by rw [List.length_append]; omega⟩, d1⟩
  have s1 : ∀ M : Store, dSlV M (.lst (someL.map D.str)) none (some 7) = some (.lst ((someL.take 7).map D.str)) := fun M => rfl
  have g0 : ∀ M : Store, dGt M (.int r) (.int 0) = some (.bl (decide (0 < r))) := fun M => rfl
  have i1 : mIf (mTest (mOp dGt (mVar 2) (mC (D.int 0)))) (mVar 1) (mSl dSlV (mVar 1) mNoP (mPart (mC (D.int 7)))) [some (.ref j), some (.lst (someL.map D.str)), some (.int r), some (.str f), x4, x5] μ = .ok (.lst (ls.map D.str)) μ := by
    simp only [mIf, mTest, mOp, mSl, mNoP, mPart, mC, mVar, Rs.bind, Rs.of, List.getElem?_cons_zero, List.getElem?_cons_succ, g0, s1]
    by_cases h : 0 < r
    · rw [decide_eq_true h, if_pos rfl, show ls = someL from if_pos h]
    · rw [decide_eq_false h, if_neg (fun z => nomatch z), show ls = someL.take 7 from if_neg h]
  unfold lb_l_drawn_2
  simp only [sAsg, tgName, mOp, mCall, mCons, mNil, mVar, Rs.bind, Rs.of, List.getElem?_cons_zero, List.getElem?_cons_succ, List.set_cons_zero, List.set_cons_succ] at i1 ⊢
  simp only [i1, e1, dAdd_str (a := f) (b := t) (by omega)]
theorem p_dr2L {j : Nat} {r : Int} {x5 : Option D} : ∀ (ds : List D) (f : Codes) (x4 : Option D) (μ : Store) (n : Nat), prn f → f.length + 4 * ds.length ≤ 1000 → Src μ j (n + ds.length) →
    ∃ f' y4 μ', forGo none (tgName 4) lb_l_drawn_2 ds [some (.ref j), some (.lst (someL.map D.str)), some (.int r), some (.str f), x4, x5] μ = .nx [some (.ref j), some (.lst (someL.map D.str)), some (.int r), some (.str f'), y4, x5] μ' ∧ (prn f' ∧ f'.length ≤ f.length + 4 * ds.length) ∧ Drw μ j n μ'
  | [], f, x4, μ, n, hf, hl, hs => ⟨f, x4, μ, rfl, ⟨hf, Nat.le_refl _⟩, hs.refl⟩
  | d :: ds, f, x4, μ, n, hf, hl, hs => by
    rw [List.length_cons] at hs hl
    obtain ⟨f1, μ1, e1, ⟨p1, l1⟩, d1⟩ := p_dr2 (r := r) (x4 := some d) (x5 := x5) (n := n + ds.length) hf (by omega) (hs.less (by omega))
    obtain ⟨f2, y4, μ2, e2, ⟨p2, l2⟩, d2⟩ := p_dr2L (r := r) (x5 := x5) ds f1 (some d) μ1 n p1 (by omega) d1.src
    refine ⟨f2, y4, μ2, ?_, ⟨p2, by rw [List.length_cons]; omega⟩, d1.trans d2⟩
    rw [forGo_nx (env1 := [some (.ref j), some (.lst (someL.map D.str)), some (.int r), some (.str f), some d, x5]) rfl e1]
    exact e2
theorem p_drawnS {j n : Nat} {μ : Store} (hs : Src μ j (n + 20)) : ∃ l μ', m_l_drawn [.ref j] μ = .ok (.str l) μ' ∧ (prn l ∧ l.length ≤ 26) ∧ Drw μ j n μ' := by
  obtain ⟨r, μ1, e1, ⟨hr0, hr1⟩, d1⟩ := p_next (n := n + 19) (many := 6) hs (by decide) (by decide)
  let env0 : En := [some (.ref j), some (.lst (someL.map D.str)), some (.int r), some (.str []), none, none]
  have g3 : ∀ M : Store, dGt M (.int r) (.int 3) = some (.bl (decide (3 < r))) := fun M => rfl
  have v2 : ∀ (f : Codes) (a b : Option D) (M : Store), mTest (mOp dGt (mVar 2) (mC (D.int 3))) [some (.ref j), some (.lst (someL.map D.str)), some (.int r), some (.str f), a, b] M = .ok (decide (3 < r)) M := fun f a b M => by
    simp only [mTest, mOp, mC, mVar, Rs.bind, Rs.of, List.getElem?_cons_zero, List.getElem?_cons_succ, g3]
  have a1 : ∃ m μ2, mRange1 (mCons (mIf (mTest (mOp dGt (mVar 2) (mC (D.int 3)))) (mOp dAdd (mC (D.int 1)) (mCall m_l_next (mCons (mVar 0) (mCons (mC (D.int 3)) mNil)))) (mC (D.int 0))) mNil) env0 μ1 = .ok (rngL 0 m, none) μ2 ∧ (m ≤ 3 ∧ (¬ 3 < r → m = 0)) ∧ Drw μ1 j (n + 18) μ2 := by
    by_cases h : 3 < r
    · obtain ⟨q, μ2, e2, ⟨hq0, hq1⟩, d2⟩ := p_next (n := n + 18) (many := 3) d1.src (by decide) (by decide)
      obtain ⟨m, hm⟩ := nat_of (i := 1 + q) (by omega)
      refine ⟨m, μ2, rng_of (by omega) ?_, ⟨by omega, fun z => absurd h z⟩, d2⟩
      simp only [mCons, mNil, mIf, mOp, mCall, mC, Rs.bind, Rs.of, v2, env0]
      simp only [decide_eq_true h, if_true, mVar, Rs.bind, List.getElem?_cons_zero, e2, show ∀ M : Store, dAdd M (.int 1) (.int q) = some (.int (1 + q)) from fun _ => rfl, hm]
    · refine ⟨0, μ1, rng_of (by omega) ?_, ⟨by omega, fun _ => rfl⟩, (d1.src.less (by omega)).refl⟩
      simp only [mCons, mNil, mIf, Rs.bind, v2, env0]
      simp only [decide_eq_false h, Bool.false_eq_true, if_false, mC, Rs.bind]
      rfl
  obtain ⟨m, μ2, e2, ⟨hm, hm0⟩, d2⟩ := a1
  obtain ⟨f1, y4, y5, μ3, e3, ⟨p1, l1⟩, d3⟩ := p_dr1L (j := j) (x1 := some (.lst (someL.map D.str))) (x2 := some (.int r)) (rngL 0 m) [] none none μ2 (n + 9) prn_nil (by rw [rngN_len]; simp; omega) (d2.src.less (by rw [rngN_len]; omega))
  rw [rngN_len] at l1
  have l1' : f1.length ≤ 21 := by
    rw [List.length_nil] at l1
    omega
  have s1 : b_l_drawn [some (.ref j), none, none, none, none, none] μ = sSeq (sIf (mTest (mOp dGt (mVar 2) (mC (D.int 3)))) (sRet (mVar 3)) sNext)
    (sSeq (sFor (mRange1 (mCons (mOp dAdd (mC (D.int 1)) (mCall m_l_next (mCons (mVar 0) (mCons (mC (D.int 8)) mNil)))) mNil)) (tgName 4) lb_l_drawn_2)
    (sRet (mIf (mTest (mOp dLtA (mVar 2) (mC (D.int 2)))) (mSl dSlV (mVar 3) mNoP (mPart (mC (D.int 24)))) (mOp dAdd (mC (D.str [97, 61])) (mSl dSlV (mVar 3) mNoP (mPart (mC (D.int 24)))))))) [some (.ref j), some (.lst (someL.map D.str)), some (.int r), some (.str f1), y4, y5] μ3 := by
    unfold b_l_drawn
    rw [seq_nx (env1 := [some (.ref j), some (.lst (someL.map D.str)), none, none, none, none]) (μ1 := μ) (by rfl)]
    rw [seq_nx (env1 := env0) (μ1 := μ1) (by
      simp only [sPar, mCall, mCons, mNil, mC, mVar, Rs.bind, List.getElem?_cons_zero, e1]
      rfl)]
    rw [seq_nx (env1 := [some (.ref j), some (.lst (someL.map D.str)), some (.int r), some (.str f1), y4, y5]) (μ1 := μ3) (by
      unfold sFor
      rw [e2]
      exact e3)]
  by_cases h : 3 < r
  · refine ⟨f1, μ3, ?_, ⟨p1, by omega⟩, ((d1.trans d2).trans d3).less (by omega)⟩
    unfold m_l_drawn fnK
    rw [if_pos (by rfl)]
    show (match b_l_drawn [some (.ref j), none, none, none, none, none] μ with | .nx _ μ' => Rs.ok D.non μ' | .rt d μ' => .ok d μ' | _ => .no) = _
    rw [s1]
    unfold sSeq sIf
    rw [v2, decide_eq_true h]
    rfl
  · have hm0 := hm0 h
    obtain ⟨q, μ4, e4, ⟨hq0, hq1⟩, d4⟩ := p_next (n := n + 8) (many := 8) d3.src (by decide) (by decide)
    obtain ⟨k, hk⟩ := nat_of (i := 1 + q) (by omega)
    obtain ⟨f2, z4, μ5, e5, ⟨p2, l2⟩, d5⟩ := p_dr2L (j := j) (r := r) (x5 := y5) (rngL 0 k) f1 y4 μ4 n p1 (by rw [rngN_len]; simp at l1; omega) (d4.src.less (by rw [rngN_len]; omega))
    have r1 : mRange1 (mCons (mOp dAdd (mC (D.int 1)) (mCall m_l_next (mCons (mVar 0) (mCons (mC (D.int 8)) mNil)))) mNil) [some (.ref j), some (.lst (someL.map D.str)), some (.int r), some (.str f1), y4, y5] μ3 = .ok (rngL 0 k, none) μ4 := by
      refine rng_of (by omega) ?_
      simp only [mCons, mNil, mOp, mCall, mC, mVar, Rs.bind, Rs.of, List.getElem?_cons_zero, e4, show ∀ M : Store, dAdd M (.int 1) (.int q) = some (.int (1 + q)) from fun _ => rfl, hk]
    have sl : ∀ M : Store, dSlV M (.str f2) none (some 24) = some (.str (f2.take 24)) := fun M => by
      simp only [dSlV, dSl]
      rw [rngN_len] at l2
      rw [if_pos (by omega), sl_to (by decide)]
      rfl
    refine ⟨if r < 2 then f2.take 24 else 97 :: 61 :: f2.take 24, μ5, ?_, ?_, (((d1.trans d2).trans d3).trans d4).trans d5⟩
    · unfold m_l_drawn fnK
      rw [if_pos (by rfl)]
      show (match b_l_drawn [some (.ref j), none, none, none, none, none] μ with | .nx _ μ' => Rs.ok D.non μ' | .rt d μ' => .ok d μ' | _ => .no) = _
      rw [s1, seq_nx (env1 := [some (.ref j), some (.lst (someL.map D.str)), some (.int r), some (.str f1), y4, y5]) (μ1 := μ3) (by
        unfold sIf
        rw [v2, decide_eq_false h]
        rfl)]
      rw [seq_nx (env1 := [some (.ref j), some (.lst (someL.map D.str)), some (.int r), some (.str f2), z4, y5]) (μ1 := μ5) (by
        unfold sFor
        rw [r1]
        exact e5)]
      have lt : ∀ M : Store, dLtA M (.int r) (.int 2) = some (.bl (decide (r < 2))) := fun M => rfl
      simp only [sRet, mIf, mTest, mOp, mSl, mNoP, mPart, mC, mVar, Rs.bind, Rs.of, List.getElem?_cons_zero, List.getElem?_cons_succ, lt, sl, dAdd_str (a := [97, 61]) (b := f2.take 24) (by rw [List.length_take]; simp; omega)]
      by_cases h2 : r < 2
      · rw [decide_eq_true h2, if_pos h2]; rfl
      · rw [decide_eq_false h2, if_neg h2]; rfl
    · split
      · exact ⟨prn_take p2, by rw [List.length_take]; omega⟩
      · exact ⟨prn_app (a := [97, 61]) (prn_of (by decide)) (prn_take p2), by simp only [List.length_cons, List.length_take]; omega⟩

end
end My
namespace My
open PySem PySem.Spec PyProof.Rows L2
section
variable {P : Program} [hP : OkP fileS P] {w : World} {K : PySem.W.Frag} {mg : Str → Option Value} {base : Heap}
/-! ### a string read, or refused -/
theorem prn_okT {l : Codes} (h : prn l) (hl : l.length ≤ 20000) : okT l = true := okT_iff.mpr ⟨prn_asc h, hl⟩
theorem p_init_no {μ ν : Store} {l : Codes} {k : Nat} (hl : okT l = true) (hn : lawName l = none) : m_Name___init [.ref k, .str l] μ = .rz "BadName" ["given"] [.str l] μ := by
  have hr := p_read_name (μ := μ) hl
  rw [hn] at hr
  have hr : m_read_name [.str l] μ = .ok .non μ := hr
  unfold m_Name___init b_Name___init
  simp only [fnKX, sSeq, sAsg, sIf, sRaise, tgName, mCall, mCons, mNil, mOp, mTest, mC, mVar, Rs.bind, Rs.of, dIs, bIs, isNon, Option.map_some, List.length_cons, List.length_nil, List.map_cons, List.map_nil, List.replicate, List.cons_append, List.nil_append, Nat.reduceAdd, if_true, List.getElem?_cons_zero, List.getElem?_cons_succ, List.set_cons_zero, List.set_cons_succ, hr]
theorem x_make_ok {m : Mo D} {env : En} {μ μ1 : Store} {l : Codes} {ls : List (List Pair)} (h : m env μ = .ok (.str l) μ1) (hl : okT l = true) (hn : lawName l = some ls) :
    mMakeX false "Name" m_Name___init 1 0 [0, 1] [D.str []] (mC (D.cls "Name")) (mCons m mNil) mNil env μ = .ok (nmT l ls) μ1 := by
  have e := p_init (μ := μ1) hl hn
  simp only [mMakeX, mC, mCons, mNil, Rs.bind, Rs.nr, h, if_true, List.length_cons, List.length_nil, and_self, Nat.reduceAdd]
  rw [show perm [0, 1] (D.ref μ1.length :: [D.str l] ++ [D.str []] ++ []) = [.ref μ1.length, .str l] from rfl, e]
  simp only [Bool.false_eq_true, if_false, st1_g0, frzC]
  rw [List.take_left' rfl]
  rfl
theorem x_make_no {m : Mo D} {env : En} {μ μ1 : Store} {l : Codes} (h : m env μ = .ok (.str l) μ1) (hl : okT l = true) (hn : lawName l = none) :
    mMakeX false "Name" m_Name___init 1 0 [0, 1] [D.str []] (mC (D.cls "Name")) (mCons m mNil) mNil env μ = .rz "BadName" ["given"] [.str l] μ1 := by
  have e := p_init_no (μ := μ1 ++ [.obj "Name" [] []]) (ν := []) (k := μ1.length) hl hn
  simp only [mMakeX, mC, mCons, mNil, Rs.bind, Rs.nr, h, if_true, List.length_cons, List.length_nil, and_self, Nat.reduceAdd]
  rw [show perm [0, 1] (D.ref μ1.length :: [D.str l] ++ [D.str []] ++ []) = [.ref μ1.length, .str l] from rfl, e]
  dsimp only
  rw [List.take_left' rfl, if_pos (show undL μ1.length [.str l] = true from rfl)]

end
end My
namespace My
open PySem PySem.Spec PyProof.Rows L2
section
variable {P : Program} [hP : OkP fileS P] {w : World} {K : PySem.W.Frag} {mg : Str → Option Value} {base : Heap}
/-! ### a string read -/
theorem p_read {μ : Store} {l : Codes} (hl : okT l = true) : m_l_read [.str l] μ = .ok (match lawName l with | some ls => nmT l ls | none => .non) μ := by
  have hn1 : ∀ (M : Store) (ls : List (List Pair)), dIs M (nmT l ls) .non = some (.bl false) := fun M ls => rfl
  cases hn : lawName l with
  | some ls =>
    have e1 : lb_l_read_1 [some (.str l), some .non, some .non, none] μ = .nx [some (.str l), some .non, some (nmT l ls), none] μ := by
      unfold lb_l_read_1 sAsgX
      rw [x_make_ok (μ1 := μ) rfl hl hn]
      rfl
    have e2 : sTryAs ecs "BadName" 3 lb_l_read_1 lb_l_read_2 [some (.str l), some .non, some .non, none] μ = .nx [some (.str l), some .non, some (nmT l ls), none] μ := by
      unfold sTryAs
      rw [e1]
    unfold m_l_read fnK
    rw [if_pos (by rfl)]
    show (match b_l_read [some (.str l), none, none, none] μ with | .nx _ μ' => Rs.ok D.non μ' | .rt d μ' => .ok d μ' | _ => .no) = _
    unfold b_l_read
    rw [seq_nx (env1 := [some (.str l), some .non, some .non, none]) (μ1 := μ) (by rfl), seq_nx e2]
    rfl
  | none =>
    have e1 : lb_l_read_1 [some (.str l), some .non, some .non, none] μ = .rz "BadName" ["given"] [.str l] [some (.str l), some .non, some .non, none] μ := by
      unfold lb_l_read_1 sAsgX
      rw [x_make_no (μ1 := μ) rfl hl hn]
    have e2 : sTryAs ecs "BadName" 3 lb_l_read_1 lb_l_read_2 [some (.str l), some .non, some .non, none] μ = .nx [some (.str l), some (.err "BadName" ["given"] [.str l]), some .non, none] μ := by
      unfold sTryAs
      rw [e1]
      rfl
    unfold m_l_read fnK
    rw [if_pos (by rfl)]
    show (match b_l_read [some (.str l), none, none, none] μ with | .nx _ μ' => Rs.ok D.non μ' | .rt d μ' => .ok d μ' | _ => .no) = _
    unfold b_l_read
    rw [seq_nx (env1 := [some (.str l), some .non, some .non, none]) (μ1 := μ) (by rfl), seq_nx e2]
    have g : dEq μ (.str l) (.str l) = some (.bl true) := by
      show some (D.bl (decide (l = l))) = _
      rw [decide_eq_true rfl]
    have f : mXfld ecs efs "given" (mVar 1) [some (.str l), some (.err "BadName" ["given"] [.str l]), some .non, none] μ = .ok (.str l) μ := rfl
    unfold sSeq
    rw [show sIf (mTest (mOp dIs (mVar 1) (mC D.non))) (sRet (mVar 2)) sNext [some (.str l), some (.err "BadName" ["given"] [.str l]), some .non, none] μ = .nx [some (.str l), some (.err "BadName" ["given"] [.str l]), some .non, none] μ from rfl]
    dsimp only
    simp only [sRet, mIf, mTest, mOp, mC, mVar, Rs.bind, Rs.of, List.getElem?_cons_zero, List.getElem?_cons_succ] at f ⊢
    simp only [f, g, if_true]
/-! ### the relative names that a name tells -/
theorem p_told_loop : ∀ (ds : List D) (ls acc : List (List Pair)) (l : Codes) (μ : Store) (x2 : Option D), gNm ls → ls.length = ds.length → acc.length + ds.length ≤ 1000 →
    ∃ y0 y2, forGo none (tgName 2) lb_l_pairs_told_1 ds [some (nmT l ls), some (.ref μ.length), x2] (μ ++ [.lst (acc.map llfD)]) = .nx [some y0, some (.ref μ.length), y2] (μ ++ [.lst ((acc ++ ls).map llfD)])
  | [], ls, acc, l, μ, x2, g, hk, ha => by
    have : ls = [] := List.eq_nil_of_length_eq_zero hk
    subst this
    exact ⟨_, x2, by rw [List.append_nil]; rfl⟩
  | d :: ds, [], acc, l, μ, x2, g, hk, ha => nomatch hk
  | d :: ds, ps :: ls, acc, l, μ, x2, g, hk, ha => by
    rw [List.length_cons] at ha
    have g2 : gNm ls := g.tail 1
    obtain ⟨y0, y2, e⟩ := p_told_loop ds ls (acc ++ [ps]) (lineL ls) μ (some d) g2 (Nat.succ.inj hk) (by rw [List.length_append, List.length_cons, List.length_nil]; omega)
    refine ⟨y0, y2, ?_⟩
    have hp := p_pairs_ (μ := μ ++ [.lst (acc.map llfD)]) (l := l) g.asc
    have hpa := p_parent (μ := μ ++ [.lst ((acc ++ [ps]).map llfD)]) (l := l) g
    have v1 := v_prop (f := m_Name_pairs) (o := mVar 0) (env := [some (nmT l (ps :: ls)), some (.ref μ.length), some d]) (μ := μ ++ [.lst (acc.map llfD)]) (l := l) (ls := ps :: ls) rfl
    have v2 := v_prop (f := m_Name_parent) (o := mVar 0) (env := [some (nmT l (ps :: ls)), some (.ref μ.length), some d]) (μ := μ ++ [.lst ((acc ++ [ps]).map llfD)]) (l := l) (ls := ps :: ls) rfl
    rw [hp] at v1
    rw [hpa] at v2
    have st : mApp (mVar 1) (mFz (mCc lList (mCons (mPropP ctab ["Name"] m_Name_pairs (mVar 0)) mNil))) [some (nmT l (ps :: ls)), some (.ref μ.length), some d] (μ ++ [.lst (acc.map llfD)]) = .ok .non (μ ++ [.lst ((acc ++ [ps]).map llfD)]) := by
      have c : cellOf (μ ++ [.lst (acc.map llfD)]) μ.length = some (acc.map llfD) := by
        unfold cellOf
        rw [List.getElem?_append_right (Nat.le_refl _), Nat.sub_self]
        rfl
      have q : pureD (.lst (ps.map pairD)) = true := by
        show pureL (ps.map pairD) = true
        rw [pureL_all, List.all_eq_true]
        intro d hd
        obtain ⟨q, _, rfl⟩ := List.mem_map.mp hd
        rfl
      have ll : ∀ M : Store, lList M [leafD (pairsOf (ps :: ls))] = some (ps.map pairD) := fun M => rfl
      have se : (μ ++ [Cell.lst (acc.map llfD)]).set μ.length (.lst (acc.map llfD ++ [.lst (ps.map pairD)])) = μ ++ [.lst ((acc ++ [ps]).map llfD)] := by
        rw [List.set_append_right _ _ (Nat.le_refl _), Nat.sub_self, List.map_append]
        rfl
      have hl : (acc.map llfD).length < 100000 := by rw [List.length_map]; omega
      have f1 : mFz (mCc lList (mCons (mPropP ctab ["Name"] m_Name_pairs (mVar 0)) mNil)) [some (nmT l (ps :: ls)), some (.ref μ.length), some d] (μ ++ [.lst (acc.map llfD)]) = .ok (.lst (ps.map pairD)) (μ ++ [.lst (acc.map llfD)]) := by
        unfold mFz mCc
        rw [mCons_eq v1]
        rfl
      unfold mApp
      rw [show mVar 1 [some (nmT l (ps :: ls)), some (.ref μ.length), some d] (μ ++ [.lst (acc.map llfD)]) = .ok (.ref μ.length) (μ ++ [.lst (acc.map llfD)]) from rfl]
      rw [Rs.bind_k]
      try dsimp only
      rw [if_pos (by rw [c]; rfl), f1, Rs.bind_k]
      try dsimp only
      rw [c]
      try dsimp only
      rw [if_pos ⟨q, hl⟩, se]
    have e1 : lb_l_pairs_told_1 [some (nmT l (ps :: ls)), some (.ref μ.length), some d] (μ ++ [.lst (acc.map llfD)]) = .nx [some (nmO ls), some (.ref μ.length), some d] (μ ++ [.lst ((acc ++ [ps]).map llfD)]) := by
      unfold lb_l_pairs_told_1
      rw [seq_nx (env1 := [some (nmT l (ps :: ls)), some (.ref μ.length), some d]) (μ1 := μ ++ [.lst ((acc ++ [ps]).map llfD)]) (by
        unfold sDrop
        rw [st])]
      unfold sAsg
      rw [v2]
      rfl
    rw [forGo_nx (env1 := [some (nmT l (ps :: ls)), some (.ref μ.length), some d]) rfl e1]
    rw [List.append_assoc] at e
    exact e
theorem p_told {μ : Store} {l : Codes} {ls : List (List Pair)} (g : gNm ls) : m_l_pairs_told [nmT l ls] μ = .ok (lsD ls) μ := by
  have hn := g.len
  obtain ⟨y0, y2, e⟩ := p_told_loop (rngL 0 ls.length) ls [] l μ none g (by rw [rngN_len]) (by rw [rngN_len]; simp; omega)
  have r1 : mRange1 (mCons (mPropP ctab ["Name"] m_Name_depth (mVar 0)) mNil) [some (nmT l ls), some (.ref μ.length), none] (μ ++ [.lst []]) = .ok (rngL 0 ls.length, none) (μ ++ [.lst []]) := by
    refine rng_of (by omega) ?_
    have v := v_prop (f := m_Name_depth) (o := mVar 0) (env := [some (nmT l ls), some (.ref μ.length), none]) (μ := μ ++ [.lst []]) (l := l) (ls := ls) rfl
    rw [p_depth] at v
    rw [mCons_eq v]
    rfl
  have b : b_l_pairs_told [some (nmT l ls), none, none] μ = .rt (.ref μ.length) (μ ++ [.lst (ls.map llfD)]) := by
    unfold b_l_pairs_told
    rw [seq_nx (env1 := [some (nmT l ls), some (.ref μ.length), none]) (μ1 := μ ++ [.lst []]) (by rfl)]
    rw [seq_nx (env1 := [some y0, some (.ref μ.length), y2]) (μ1 := μ ++ [.lst (ls.map llfD)]) (by
      unfold sFor
      rw [r1]
      exact e)]
    rfl
  unfold m_l_pairs_told fnD
  rw [if_pos (by rfl)]
  show (match b_l_pairs_told [some (nmT l ls), none, none] μ with | .nx _ μ' => Rs.ok D.non (μ'.take μ.length) | .rt d μ' => finD μ.length d μ' | _ => .no) = _
  rw [b]
  dsimp only
  unfold finD
  dsimp only
  rw [if_neg (Nat.lt_irrefl _), List.getElem?_append_right (Nat.le_refl _), Nat.sub_self]
  dsimp only [List.getElem?_cons_zero]
  rw [List.take_left' rfl]
  rfl
/-! ### one string -/
theorem bEq_same {μ : Store} {ls : List (List Pair)} (h : ∀ ps ∈ ls, ∀ q ∈ ps, asc q.1 ∧ asc q.2) : bEq μ (lsD ls) (lsD ls) = some true := by
  obtain ⟨h1, h2⟩ := shLs h
  have hs : SeqAt.shaped (.list (ls.map fun ps => PyData.list (ps.map dP))) = true := by
    show (PyData.canLayAll0 _ && decide (PyData.depthAll _ + 1 ≤ 64)) = true
    rw [h1, decide_eq_true (by omega)]
    rfl
  have e1 : toDataS μ (lsD ls) = some (.list (ls.map fun ps => .list (ps.map dP))) := by show (toDataL _).map _ = _; rw [toDataL_ls]; rfl
  have e3 : PyData.eqv (.list (ls.map fun ps => PyData.list (ps.map dP))) (.list (ls.map fun ps => PyData.list (ps.map dP))) = true := SeqAt.eqv_refl _ (by
    show PyData.canLayAll0 _ = true
    exact h1)
  unfold lsD at e1 ⊢
  simp only [bEq, e1]
  rw [if_pos ⟨hs, hs⟩, e3]
theorem p_one_right {μ : Store} {l : Codes} (hp : prn l) (hl : l.length ≤ 1000) : m_l_one_right [.str l] μ = .ok (.bl true) μ := by
  have hk : okT l = true := prn_okT hp (by omega)
  have hn : m_l_name [.str l] μ = .ok (lnmD (lawName l)) μ := mTxt_eq hk
  have hr := p_read (μ := μ) hk
  unfold m_l_one_right fnK
  rw [if_pos (by rfl)]
  show (match b_l_one_right [some (.str l), none, none] μ with | .nx _ μ' => Rs.ok D.non μ' | .rt d μ' => .ok d μ' | _ => .no) = _
  cases e : lawName l with
  | none =>
    rw [e] at hn hr
    have hn : m_l_name [.str l] μ = .ok .non μ := hn
    dsimp only at hr
    unfold b_l_one_right
    rw [seq_nx (env1 := [some (.str l), some .non, some .non]) (μ1 := μ) (by
      simp only [sPar, mCall, mCons, mNil, mVar, Rs.bind, List.getElem?_cons_zero, hn, hr]
      rfl)]
    rfl
  | some ls =>
    rw [e] at hn hr
    have hn : m_l_name [.str l] μ = .ok (lsD ls) μ := hn
    dsimp only at hr
    have g : gNm ls := lawName_gNm hp e
    have hli := lawName_rt e
    let E : En := [some (.str l), some (nmT l ls), some (lsD ls)]
    have v1 : mVar 1 E μ = .ok (nmT l ls) μ := rfl
    have v0 : mVar 0 E μ = .ok (.str l) μ := rfl
    have v2 : mVar 2 E μ = .ok (lsD ls) μ := rfl
    have t1 : mPropP ctab ["Name"] m_Name_text (mVar 1) E μ = .ok (.str l) μ := (v_prop (f := m_Name_text) v1).trans p_text
    have t2 : mPropP ctab ["Name"] m_Name_normal (mVar 1) E μ = .ok (.str (normName ls)) μ := (v_prop (f := m_Name_normal) v1).trans (p_normal g.ok)
    have t3 : mCall m_l_line (mCons (mVar 2) mNil) E μ = .ok (.str l) μ := by
      have h := p_line (μ := μ) (ls := ls) (by have := g.len; omega) fun ps hp => goodL_short (g.pr ps hp)
      rw [hli] at h
      simp only [mCall, mCons, mNil, Rs.bind, v2]
      exact h
    have t4 : mCall m_l_low_line (mCons (mVar 2) mNil) E μ = .ok (.str (normName ls)) μ := by
      have h := p_low_line (μ := μ) g.ok g.asc
      simp only [mCall, mCons, mNil, Rs.bind, v2]
      exact h
    have t5 : mCall m_l_pairs_told (mCons (mVar 1) mNil) E μ = .ok (lsD ls) μ := by
      simp only [mCall, mCons, mNil, Rs.bind, v1, p_told g]
    have i1 : mTest (mCb (dIsiC ctab) (mCons (mVar 1) (mCons (mC (D.cls "Name")) mNil))) E μ = .ok true μ := by
      have h0 : dIsiC ctab μ [nmT l ls, .cls "Name"] = some (.bl true) := by
        simp only [dIsiC, nmT, clsOf]
        rw [if_pos ⟨ctab_name, ctab_name⟩]
        rfl
      simp only [mTest, mCb, mCons, mNil, mC, Rs.bind, Rs.of, v1, h0]
    have n1 : mTest (mOp dNe (mCall m_l_pairs_told (mCons (mVar 1) mNil)) (mVar 2)) E μ = .ok false μ := by
      have b := bEq_same (μ := μ) g.asc
      simp only [mTest, mOp, Rs.bind, Rs.of, t5, v2, dNe, b, Option.map_some, Bool.not_true]
    have q : ∀ x : Codes, dEq μ (.str x) (.str x) = some (.bl true) := fun x => by
      show some (D.bl (decide (x = x))) = _
      rw [decide_eq_true rfl]
    have b : b_l_one_right [some (.str l), none, none] μ = .rt (.bl true) μ := by
      unfold b_l_one_right
      rw [seq_nx (env1 := E) (μ1 := μ) (by
        simp only [sPar, mCall, mCons, mNil, mVar, Rs.bind, List.getElem?_cons_zero, hn, hr]
        rfl)]
      rw [seq_nx (env1 := E) (μ1 := μ) (by rfl)]
      rw [seq_nx (env1 := E) (μ1 := μ) (by
        simp only [sIf, mOr, mNot, Rs.bind, i1, n1, Bool.not_true, Bool.false_eq_true, if_false, sNext])]
      simp only [sRet, mAndV, mOp, Rs.bind, Rs.of, t1, t2, t3, t4, v0, q]
    rw [b]

end
end My
namespace My
open PySem PySem.Spec PyProof.Rows L2
section
variable {P : Program} [hP : OkP fileS P] {w : World} {K : PySem.W.Frag} {mg : Str → Option Value} {base : Heap}
/-! ### the law -/
theorem p_drawns {j : Nat} {w x2 x4 x5 x6 x7 x8 x9 : Option D} : ∀ (ds : List D) (μ : Store) (n : Nat), Src μ j (n + 20 * ds.length) →
    ∃ (ls : List Codes) (μ' : Store), lcGo none (tgName 3) (mC true) le_law_1 [w, some (.ref j), x2, none, x4, x5, x6, x7, x8, x9] ds μ = .ok (ls.map D.str) μ' ∧ ((∀ l ∈ ls, prn l ∧ l.length ≤ 26) ∧ ls.length = ds.length) ∧ Drw μ j n μ'
  | [], μ, n, hs => ⟨[], μ, rfl, ⟨fun l h => (nomatch h), rfl⟩, hs.refl⟩
  | d :: ds, μ, n, hs => by
    rw [List.length_cons] at hs
    obtain ⟨l, μ1, e1, gl, d1⟩ := p_drawnS (n := n + 20 * ds.length) (hs.less (by omega))
    obtain ⟨ls, μ2, e2, ⟨g1, g2⟩, d2⟩ := p_drawns (w := w) (x2 := x2) (x4 := x4) (x5 := x5) (x6 := x6) (x7 := x7) (x8 := x8) (x9 := x9) ds μ1 n d1.src
    refine ⟨l :: ls, μ2, ?_, ⟨fun q hq => ?_, by rw [List.length_cons, List.length_cons, g2]⟩, d1.trans d2⟩
    · have e3 : le_law_1 [w, some (.ref j), x2, some d, x4, x5, x6, x7, x8, x9] μ = .ok (.str l) μ1 := by
        unfold le_law_1
        simp only [mCall, mCons, mNil, mVar, Rs.bind, List.getElem?_cons_zero, List.getElem?_cons_succ, e1]
      rw [lcGo_yes (env1 := [w, some (.ref j), x2, some d, x4, x5, x6, x7, x8, x9]) rfl (μ1 := μ) rfl e3, e2, List.map_cons]
      rfl
    · rcases List.mem_cons.mp hq with rfl | hq
      · exact gl
      · exact g1 q hq
/-- texts of which all is known that the law needs -/
def fine (l : Codes) : Prop := prn l ∧ l.length ≤ 100
theorem fine_name {l : Codes} (h : fine l) (μ : Store) : m_l_name [.str l] μ = .ok (lnmD (lawName l)) μ := mTxt_eq (prn_okT h.1 (by have := h.2; omega))
/-- those that are names -/
theorem p_goods {t : Mo Bool} {e : Mo D} {env0 : En} {μ : Store} (hts : ∀ l, fine l → ∃ env1, tgName 5 (.str l) env0 = some env1 ∧ t env1 μ = .ok ((lawName l).isSome) μ ∧ e env1 μ = .ok (.str l) μ) : ∀ ls : List Codes, (∀ l ∈ ls, fine l) →
    lcGo none (tgName 5) t e env0 (ls.map D.str) μ = .ok ((ls.filter fun l => (lawName l).isSome).map D.str) μ
  | [], _ => rfl
  | l :: ls, h => by
    have ih := p_goods hts ls fun x hx => h x (List.mem_cons_of_mem _ hx)
    obtain ⟨env1, h1, h2, h3⟩ := hts l (h l List.mem_cons_self)
    rw [List.map_cons, List.filter_cons]
    by_cases hn : (lawName l).isSome = true
    · rw [hn] at h2 ⊢
      rw [lcGo_yes h1 h2 h3, ih]
      rfl
    · rw [Bool.not_eq_true] at hn
      rw [hn] at h2 ⊢
      simp only [lcGo, gdOk, if_true, h1, h2, Rs.bind, Bool.false_eq_true, if_false, ih]
theorem p_law4 {μ : Store} {x1 x2 x3 x4 x6 x7 x8 x9 w : Option D} : ∀ (ls : List Codes) (x5 : Option D), (∀ l ∈ ls, fine l) → ∃ y5, forGo none (tgName 5) lb_law_4 (ls.map D.str) [w, x1, x2, x3, x4, x5, x6, x7, x8, x9] μ = .nx [w, x1, x2, x3, x4, y5, x6, x7, x8, x9] μ
  | [], x5, _ => ⟨x5, rfl⟩
  | l :: ls, x5, h => by
    obtain ⟨y5, e⟩ := p_law4 (μ := μ) (x1 := x1) (x2 := x2) (x3 := x3) (x4 := x4) (x6 := x6) (x7 := x7) (x8 := x8) (x9 := x9) (w := w) ls (some (.str l)) fun x hx => h x (List.mem_cons_of_mem _ hx)
    refine ⟨y5, ?_⟩
    have hf := h l List.mem_cons_self
    have e1 : lb_law_4 [w, x1, x2, x3, x4, some (.str l), x6, x7, x8, x9] μ = .nx [w, x1, x2, x3, x4, some (.str l), x6, x7, x8, x9] μ := by
      unfold lb_law_4
      simp only [sIf, mNot, mTest, mCall, mCons, mNil, mVar, Rs.bind, List.getElem?_cons_zero, List.getElem?_cons_succ, p_one_right hf.1 (by have := hf.2; omega), Bool.not_true, Bool.false_eq_true, if_false, sNext]
    rw [List.map_cons, forGo_nx (env1 := [w, x1, x2, x3, x4, some (.str l), x6, x7, x8, x9]) rfl e1]
    exact e
/-- two that are names -/
theorem p_law7 {μ : Store} {x1 x2 x3 x4 x5 x6 x9 w : Option D} {a b : Codes} {la lb : List (List Pair)} (fa : fine a) (fb : fine b) (ha : lawName a = some la) (hb : lawName b = some lb) :
    ∃ y9, lb_law_7 [w, x1, x2, x3, x4, x5, x6, some (.str a), some (.str b), x9] μ = .nx [w, x1, x2, x3, x4, x5, x6, some (.str a), some (.str b), y9] μ := by
  have ga := lawName_gNm fa.1 ha
  have gb := lawName_gNm fb.1 hb
  have ka : okT a = true := prn_okT fa.1 (by have := fa.2; omega)
  have kb : okT b = true := prn_okT fb.1 (by have := fb.2; omega)
  refine ⟨some (.bl (decide (normName la = normName lb))), ?_⟩
  have l7 : ∀ x, mCall m_l_low_line (mCons (mCall m_l_name (mCons (mVar 7) mNil)) mNil) [w, x1, x2, x3, x4, x5, x6, some (.str a), some (.str b), x] μ = .ok (.str (normName la)) μ := fun x => by
    have h := p_low_line (μ := μ) ga.ok ga.asc
    simp only [mCall, mCons, mNil, mVar, Rs.bind, List.getElem?_cons_zero, List.getElem?_cons_succ, fine_name fa, ha, h]
  have l8 : ∀ x, mCall m_l_low_line (mCons (mCall m_l_name (mCons (mVar 8) mNil)) mNil) [w, x1, x2, x3, x4, x5, x6, some (.str a), some (.str b), x] μ = .ok (.str (normName lb)) μ := fun x => by
    have h := p_low_line (μ := μ) gb.ok gb.asc
    simp only [mCall, mCons, mNil, mVar, Rs.bind, List.getElem?_cons_zero, List.getElem?_cons_succ, fine_name fb, hb, h]
  let E : En := [w, x1, x2, x3, x4, x5, x6, some (.str a), some (.str b), some (.bl (decide (normName la = normName lb)))]
  have n7 : mMakeP false "Name" m_Name___init 1 0 [0, 1] [D.str []] (mC (D.cls "Name")) (mCons (mVar 7) mNil) mNil E μ = .ok (nmT a la) μ := p_make (μ1 := μ) rfl ka ha
  have n8 : mMakeP false "Name" m_Name___init 1 0 [0, 1] [D.str []] (mC (D.cls "Name")) (mCons (mVar 8) mNil) mNil E μ = .ok (nmT b lb) μ := p_make (μ1 := μ) rfl kb hb
  have a1 := v_eq (neg := false) ga.asc gb.asc n7 n8
  rw [← norm_ord ga gb] at a1
  have p7 := (v_prop (f := m_Name_normal) n7).trans (p_normal (μ := μ) (l := a) ga.ok)
  have p8 := (v_prop (f := m_Name_normal) n8).trans (p_normal (μ := μ) (l := b) gb.ok)
  have a2 := v_neS (neg := false) p7 p8
  have v9 : mVar 9 E μ = .ok (.bl (decide (normName la = normName lb))) μ := rfl
  have bb : ∀ {m : Mo D}, m E μ = .ok (.bl (if (false : Bool) = true then !decide (normName la = normName lb) else decide (normName la = normName lb))) μ → mEqA ctab true eqTab m (mVar 9) E μ = .ok (.bl false) μ := fun {m} h => by
    simp only [mEqA, Rs.bind, Rs.of, h, v9, clsOf, dNe, bEq, Option.map_some, if_true, Bool.false_eq_true, if_false, beq_self_eq_true, Bool.not_true]
  have b1 := bb a1
  have b2 := bb a2
  unfold lb_law_7
  rw [seq_nx (env1 := E) (μ1 := μ) (by
    have h := v_neS (neg := false) (l7 x9) (l8 x9)
    unfold sAsg
    rw [h]
    rfl)]
  simp only [sIf, mOr, mTest, Rs.bind, b1, b2, Bool.false_eq_true, if_false, sNext]
  all_goals rfl
theorem p_law7L {μ : Store} {x1 x2 x3 x4 x5 x6 w : Option D} {a : Codes} {la : List (List Pair)} (fa : fine a) (ha : lawName a = some la) : ∀ (bs : List Codes) (x8 x9 : Option D), (∀ b ∈ bs, fine b ∧ (lawName b).isSome = true) →
    ∃ y8 y9, forGo none (tgName 8) lb_law_7 (bs.map D.str) [w, x1, x2, x3, x4, x5, x6, some (.str a), x8, x9] μ = .nx [w, x1, x2, x3, x4, x5, x6, some (.str a), y8, y9] μ
  | [], x8, x9, _ => ⟨x8, x9, rfl⟩
  | b :: bs, x8, x9, h => by
    obtain ⟨fb, hb⟩ := h b List.mem_cons_self
    obtain ⟨lb, hb⟩ := Option.isSome_iff_exists.mp hb
    obtain ⟨z9, e1⟩ := p_law7 (μ := μ) (x1 := x1) (x2 := x2) (x3 := x3) (x4 := x4) (x5 := x5) (x6 := x6) (x9 := x9) (w := w) fa fb ha hb
    obtain ⟨y8, y9, e2⟩ := p_law7L (μ := μ) (x1 := x1) (x2 := x2) (x3 := x3) (x4 := x4) (x5 := x5) (x6 := x6) (w := w) fa ha bs (some (.str b)) z9 fun x hx => h x (List.mem_cons_of_mem _ hx)
    refine ⟨y8, y9, ?_⟩
    rw [List.map_cons, forGo_nx (env1 := [w, x1, x2, x3, x4, x5, x6, some (.str a), some (.str b), x9]) rfl e1]
    exact e2
theorem p_law8L {μ : Store} {x1 x2 x3 x5 x6 w : Option D} {gs : List Codes} (hg : ∀ b ∈ gs, fine b ∧ (lawName b).isSome = true) : ∀ (as : List Codes) (x7 x8 x9 : Option D), (∀ b ∈ as, fine b ∧ (lawName b).isSome = true) →
    ∃ y7 y8 y9, forGo none (tgName 7) lb_law_8 (as.map D.str) [w, x1, x2, x3, some (.lst (gs.map D.str)), x5, x6, x7, x8, x9] μ = .nx [w, x1, x2, x3, some (.lst (gs.map D.str)), x5, x6, y7, y8, y9] μ
  | [], x7, x8, x9, _ => ⟨x7, x8, x9, rfl⟩
  | a :: as, x7, x8, x9, h => by
    obtain ⟨fa, ha⟩ := h a List.mem_cons_self
    obtain ⟨la, ha⟩ := Option.isSome_iff_exists.mp ha
    obtain ⟨z8, z9, e1⟩ := p_law7L (μ := μ) (x1 := x1) (x2 := x2) (x3 := x3) (x4 := some (.lst (gs.map D.str))) (x5 := x5) (x6 := x6) (w := w) fa ha gs x8 x9 hg
    obtain ⟨y7, y8, y9, e2⟩ := p_law8L (μ := μ) (x1 := x1) (x2 := x2) (x3 := x3) (x5 := x5) (x6 := x6) (w := w) hg as (some (.str a)) z8 z9 fun x hx => h x (List.mem_cons_of_mem _ hx)
    refine ⟨y7, y8, y9, ?_⟩
    rw [List.map_cons, forGo_nx (env1 := [w, x1, x2, x3, some (.lst (gs.map D.str)), x5, x6, some (.str a), x8, x9]) rfl (show lb_law_8 [w, x1, x2, x3, some (.lst (gs.map D.str)), x5, x6, some (.str a), x8, x9] μ = .nx _ μ from e1)]
    exact e2
theorem fine_cat {a b c : Codes} (h1 : prn a ∧ a.length ≤ 26) (h2 : prn b ∧ b.length ≤ 2) (h3 : prn c ∧ c.length ≤ 26) : fine (a ++ b ++ c) := ⟨prn_app (prn_app h1.1 h2.1) h3.1, by simp only [List.length_append]; omega⟩
theorem ix_last {xs : List Codes} (h : 1 < xs.length) : (∃ a ∈ xs, ∀ μ, dIx μ (.lst (xs.map D.str)) (.int 0) = some (.str a)) ∧ ∃ a ∈ xs, ∀ μ, dIx μ (.lst (xs.map D.str)) (.int (-1)) = some (.str a) := by
  have hl : (xs.map D.str).length = xs.length := List.length_map _
  constructor
  · obtain ⟨x, h1, h2⟩ := atI_mem (xs := xs.map D.str) (i := 0) (by omega) (by omega)
    obtain ⟨a, ha, rfl⟩ := List.mem_map.mp (List.mem_of_getElem? h2)
    exact ⟨a, ha, fun μ => h1⟩
  · have hj : xs.length - 1 < xs.length := by omega
    refine ⟨xs[xs.length - 1], List.getElem_mem hj, fun μ => ?_⟩
    show atI (xs.map D.str) (-1) = _
    unfold atI ixN
    rw [if_neg (by decide), hl, if_pos (by omega)]
    rw [Option.bind_some, List.getElem?_map]
    rw [show ((-1 : Int) + (xs.length : Int)).toNat = xs.length - 1 by omega, List.getElem?_eq_getElem hj]
    rfl
theorem p_law9 {j n : Nat} {μ : Store} {w x2 x3 x4 x5 x6 x7 x8 x9 : Option D} (hs : Src μ j (n + 130)) :
    ∃ (y2 y3 y4 y5 y6 y7 y8 y9 : Option D) (μ' : Store), lb_law_9 [w, some (.ref j), x2, x3, x4, x5, x6, x7, x8, x9] μ = .nx [w, some (.ref j), y2, y3, y4, y5, y6, y7, y8, y9] μ' ∧ Drw μ j n μ' := by
  obtain ⟨ls, μ1, e1, ⟨hf, hl⟩, d1⟩ := p_drawns (j := j) (w := w) (x2 := x2) (x4 := x4) (x5 := x5) (x6 := x6) (x7 := x7) (x8 := x8) (x9 := x9) (rngL 0 6) μ (n + 1) (hs.less (by rw [rngN_len]; omega))
  have hl6 : ls.length = 6 := by rw [hl, rngN_len]
  have hfine : ∀ l ∈ ls, fine l := fun l hl => ⟨(hf l hl).1, by have := (hf l hl).2; omega⟩
  let gd := ls.filter fun l => (lawName l).isSome
  have hgd : ∀ l ∈ gd, l ∈ ls ∧ (lawName l).isSome = true := fun l hl => List.mem_filter.mp hl
  have gl : gd.length ≤ 6 := by rw [← hl6]; exact List.length_filter_le ..
  have tst : ∀ (l : Codes), fine l → ∀ (env : En) (M : Store), env[5]? = some (some (.str l)) → mTest (mOp dIsn (mCall m_l_name (mCons (mVar 5) mNil)) (mC D.non)) env M = .ok ((lawName l).isSome) M := fun l hl env M he => by
    simp only [mTest, mOp, mCall, mCons, mNil, mC, mVar, he, Rs.bind, Rs.of, fine_name hl]
    cases lawName l with
    | none => rfl
    | some ns => rfl
  have gds : ∀ (xs : List Codes) (M : Store) (b2 b3 b4 b6 b7 b8 b9 : Option D), (∀ l ∈ xs, fine l) → lcGo none (tgName 5) lt_law_3 le_law_2 [w, some (.ref j), b2, b3, b4, none, b6, b7, b8, b9] (xs.map D.str) M = .ok ((xs.filter fun l => (lawName l).isSome).map D.str) M := fun xs M b2 b3 b4 b6 b7 b8 b9 h =>
    p_goods (fun l hl => ⟨[w, some (.ref j), b2, b3, b4, some (.str l), b6, b7, b8, b9], rfl, tst l hl _ M rfl, rfl⟩) xs h
  have gds2 : ∀ (xs : List Codes) (M : Store) (b2 b3 b4 b6 b7 b8 b9 : Option D), (∀ l ∈ xs, fine l) → lcGo none (tgName 5) lt_law_6 le_law_5 [w, some (.ref j), b2, b3, b4, none, b6, b7, b8, b9] (xs.map D.str) M = .ok ((xs.filter fun l => (lawName l).isSome).map D.str) M := fun xs M b2 b3 b4 b6 b7 b8 b9 h =>
    p_goods (fun l hl => ⟨[w, some (.ref j), b2, b3, b4, some (.str l), b6, b7, b8, b9], rfl, tst l hl _ M rfl, rfl⟩) xs h
  -- the strings put together
  have put : ∃ (ms : List Codes) (y6 : Option D) (μ2 : Store), sIf (mTest (mOp dGt (mCb dLen (mCons (mVar 4) mNil)) (mC (D.int 1)))) (sSeq (sAsg (mCall m_l_pick (mCons (mVar 1) (mCons (mFz (mLst (mCons (mC (D.str [44])) (mCons (mC (D.str [43])) (mCons (mC (D.str [])) (mCons (mC (D.str [44, 32])) (mCons (mC (D.str [61])) mNil))))))) mNil))) (tgName 6))
      (sAsg (mOp dAdd (mVar 2) (mFz (mLst (mCons (mOp dAdd (mOp dAdd (mOp dIx (mVar 4) (mC (D.int 0))) (mVar 6)) (mOp dIx (mVar 4) (mNeg (mC (D.int 1))))) (mCons (mOp dAdd (mOp dAdd (mOp dIx (mVar 4) (mNeg (mC (D.int 1)))) (mVar 6)) (mOp dIx (mVar 4) (mC (D.int 0)))) mNil))))) (tgName 2))) sNext
      [w, some (.ref j), some (.lst (ls.map D.str)), x3, some (.lst (gd.map D.str)), x5, x6, x7, x8, x9] μ1 = .nx [w, some (.ref j), some (.lst (ms.map D.str)), x3, some (.lst (gd.map D.str)), x5, y6, x7, x8, x9] μ2 ∧ ((∀ l ∈ ms, fine l) ∧ ms.length ≤ 10) ∧ Drw μ1 j n μ2 := by
    have g1 : ∀ M : Store, mTest (mOp dGt (mCb dLen (mCons (mVar 4) mNil)) (mC (D.int 1))) [w, some (.ref j), some (.lst (ls.map D.str)), x3, some (.lst (gd.map D.str)), x5, x6, x7, x8, x9] M = .ok (decide (1 < (gd.length : Int))) M := fun M => by
      have h : dLen M [.lst (gd.map D.str)] = some (.int (gd.length : Int)) := by simp only [dLen, asQ, asS, List.length_map]
      simp only [mTest, mOp, mCb, mCons, mNil, mC, mVar, Rs.bind, Rs.of, List.getElem?_cons_zero, List.getElem?_cons_succ, h, dGt]
    by_cases hg : 1 < (gd.length : Int)
    · obtain ⟨⟨a, ha, ia⟩, c, hc, ic⟩ := ix_last (xs := gd) (by omega)
      obtain ⟨b, μ2, e2, hb, d2⟩ := p_pickT (n := n) (ls := [[44], [43], [], [44, 32], [61]]) d1.src (by decide) (by decide)
      have fb : prn b ∧ b.length ≤ 2 := by
        simp only [List.mem_cons, List.not_mem_nil, or_false] at hb
        rcases hb with rfl | rfl | rfl | rfl | rfl <;> exact ⟨prn_of (by decide), by decide⟩
      have fa := hf a (hgd a ha).1
      have fc := hf c (hgd c hc).1
      refine ⟨ls ++ [a ++ b ++ c, c ++ b ++ a], some (.str b), μ2, ?_, ⟨fun l hl => ?_, by simp [hl6]⟩, d2⟩
      · have e2' : m_l_pick [.ref j, .lst [.str [44], .str [43], .str [], .str [44, 32], .str [61]]] μ1 = .ok (.str b) μ2 := e2
        have q1 := dAdd_str (a := a) (b := b) (by omega)
        have q2 := dAdd_str (a := a ++ b) (b := c) (by rw [List.length_append]; omega)
        have q3 := dAdd_str (a := c) (b := b) (by omega)
        have q4 := dAdd_str (a := c ++ b) (b := a) (by rw [List.length_append]; omega)
        have q5 : ∀ M : Store, dAdd M (.lst (ls.map D.str)) (.lst [.str (a ++ b ++ c), .str (c ++ b ++ a)]) = some (.lst ((ls ++ [a ++ b ++ c, c ++ b ++ a]).map D.str)) := fun M => by
          show (if (ls.map D.str).length + 2 ≤ 100000 then _ else _) = _
          rw [if_pos (by rw [List.length_map]; omega), List.map_append]
          rfl
        unfold sIf
        rw [g1, decide_eq_true hg]
        simp only [if_true]
        rw [seq_nx (env1 := [w, some (.ref j), some (.lst (ls.map D.str)), x3, some (.lst (gd.map D.str)), x5, some (.str b), x7, x8, x9]) (μ1 := μ2) (by
          simp only [sAsg, tgName, mCall, mCons, mNil, mFz, mLst, mC, mVar, Rs.bind, List.getElem?_cons_zero, List.getElem?_cons_succ, List.length_cons, List.length_nil, Nat.reduceAdd, Nat.reduceLeDiff, if_true, e2', List.set_cons_zero, List.set_cons_succ])]
        simp only [sAsg, tgName, mOp, mNeg, mCons, mNil, mFz, mLst, mC, mVar, Rs.bind, Rs.of, List.getElem?_cons_zero, List.getElem?_cons_succ, List.length_cons, List.length_nil, Nat.reduceAdd, Nat.reduceLeDiff, if_true, ia, ic, q1, q2, q3, q4, q5, List.set_cons_zero, List.set_cons_succ]
      · rcases List.mem_append.mp hl with h | h
        · exact hfine l h
        · simp only [List.mem_cons, List.not_mem_nil, or_false] at h
          rcases h with rfl | rfl
          · exact fine_cat fa fb fc
          · exact fine_cat fc fb fa
    · refine ⟨ls, x6, μ1, ?_, ⟨hfine, by omega⟩, (d1.src.less (by omega)).refl⟩
      unfold sIf
      rw [g1, decide_eq_false hg]
      rfl
  obtain ⟨ms, y6, μ2, e2, ⟨hm, hml⟩, d2⟩ := put
  let gm := ms.filter fun l => (lawName l).isSome
  have hgm : ∀ l ∈ gm, fine l ∧ (lawName l).isSome = true := fun l hl => ⟨hm l (List.mem_filter.mp hl).1, (List.mem_filter.mp hl).2⟩
  have gml : gm.length ≤ 10 := Nat.le_trans (List.length_filter_le ..) hml
  obtain ⟨y5, e3⟩ := p_law4 (μ := μ2) (x1 := some (.ref j)) (x2 := some (.lst (ms.map D.str))) (x3 := x3) (x4 := some (.lst (gd.map D.str))) (x6 := y6) (x7 := x7) (x8 := x8) (x9 := x9) (w := w) ms x5 hm
  obtain ⟨y7, y8, y9, e4⟩ := p_law8L (μ := μ2) (x1 := some (.ref j)) (x2 := some (.lst (ms.map D.str))) (x3 := x3) (x5 := y5) (x6 := y6) (w := w) hgm gm x7 x8 x9 hgm
  refine ⟨some (.lst (ms.map D.str)), x3, some (.lst (gm.map D.str)), y5, y6, y7, y8, y9, μ2, ?_, d1.trans d2⟩
  unfold lb_law_9
  rw [seq_nx (env1 := [w, some (.ref j), some (.lst (ls.map D.str)), x3, x4, x5, x6, x7, x8, x9]) (μ1 := μ1) (by
    have hr := rng_of (μ := μ) (μ' := μ) (m := mCons (mC (D.int 6)) mNil) (env := [w, some (.ref j), x2, x3, x4, x5, x6, x7, x8, x9]) (n := 6) (by omega) rfl
    unfold sAsg mFz mLc
    rw [hr]
    simp only [Rs.bind, rngN_len, wipeE, List.set_cons_zero, List.set_cons_succ]
    rw [if_pos (by omega), e1]
    rfl)]
  rw [seq_nx (env1 := [w, some (.ref j), some (.lst (ls.map D.str)), x3, some (.lst (gd.map D.str)), x5, x6, x7, x8, x9]) (μ1 := μ1) (by
    have h := gds ls μ1 (some (.lst (ls.map D.str))) x3 x4 x6 x7 x8 x9 hfine
    unfold sAsg mFz mLc
    rw [show mIter (mVar 2) [w, some (.ref j), some (.lst (ls.map D.str)), x3, x4, x5, x6, x7, x8, x9] μ1 = .ok (ls.map D.str, none) μ1 from rfl]
    simp only [Rs.bind, List.length_map, wipeE, List.set_cons_zero, List.set_cons_succ]
    rw [if_pos (by omega), h]
    rfl)]
  rw [seq_nx e2]
  rw [seq_nx (env1 := [w, some (.ref j), some (.lst (ms.map D.str)), x3, some (.lst (gd.map D.str)), y5, y6, x7, x8, x9]) (μ1 := μ2) (by exact e3)]
  rw [seq_nx (env1 := [w, some (.ref j), some (.lst (ms.map D.str)), x3, some (.lst (gm.map D.str)), y5, y6, x7, x8, x9]) (μ1 := μ2) (by
    have h := gds2 ms μ2 (some (.lst (ms.map D.str))) x3 (some (.lst (gd.map D.str))) y6 x7 x8 x9 hm
    unfold sAsg mFz mLc
    rw [show mIter (mVar 2) [w, some (.ref j), some (.lst (ms.map D.str)), x3, some (.lst (gd.map D.str)), y5, y6, x7, x8, x9] μ2 = .ok (ms.map D.str, none) μ2 from rfl]
    simp only [Rs.bind, List.length_map, wipeE, List.set_cons_zero, List.set_cons_succ]
    rw [if_pos (by omega), h]
    rfl)]
  exact e4
theorem p_law (ns : List Int) (hn : ns.length ≤ 63) : ∃ μ', b_law (some (.wl (ns.map D.int)) :: List.replicate 9 none) [] = .rt (.bl true) μ' := by
  obtain ⟨cs, h1, h2⟩ := p_rounds (most := 8) hn (by decide)
  obtain ⟨env2, μ2, e, _⟩ := rounds_loop (tg := tgName 1) (body := lb_law_9) 130 (fun env => ∃ x1 x2 x3 x4 x5 x6 x7 x8 x9, env = [some (.wl (ns.map D.int)), x1, x2, x3, x4, x5, x6, x7, x8, x9]) (fun env μ j ⟨x1, x2, x3, x4, x5, x6, x7, x8, x9, he⟩ hs => by
    subst he
    obtain ⟨y2, y3, y4, y5, y6, y7, y8, y9, μ', e1, d1⟩ := p_law9 (n := 0) (w := some (.wl (ns.map D.int))) (x2 := x2) (x3 := x3) (x4 := x4) (x5 := x5) (x6 := x6) (x7 := x7) (x8 := x8) (x9 := x9) (hs.less (by omega))
    exact ⟨_, _, μ', 0, rfl, e1, d1, some (.ref j), y2, y3, y4, y5, y6, y7, y8, y9, rfl⟩) (List.range cs.length) (some (.wl (ns.map D.int)) :: List.replicate 9 none) cs List.nodup_range (srcs_start (by decide) h1) ⟨none, none, none, none, none, none, none, none, none, rfl⟩
  refine ⟨μ2, ?_⟩
  have h2' : m_l_rounds [.wl (ns.map D.int), .int 8] [] = .ok (.lst ((List.range cs.length).map D.ref)) cs := h2
  unfold b_law
  simp only [mC, mVar, mCall, mCons, mNil, mIter, sSeq, sFor, sRet, Rs.bind, Rs.of, itemsOf, List.getElem?_cons_zero, h2', e]
  all_goals rfl

end
end My
namespace My
open PySem PySem.Spec PyProof.Rows L2
-- plain
theorem law_end {P : Program} [hP : OkP fileS P] {w : World} {K : PySem.W.Frag} {h : Heap} {mg : Str → Option Value} {fa : Addr} (T : Tx K mg) (KX : K.In h) (hmg : mg ("law" : Str) = some (.ref fa)) :
    ∃ (K : PySem.W.Frag) (fd : FuncData) (sp : Sp), K.In h ∧ (∀ (s : Shared) (u : Value), BindsTo s fd ⟨[u], []⟩ [("_law_script", u)]) ∧
      (∀ (H : Hp) (a : Addr) (ns : List Int), ns.length ≤ 63 → Only H → SqL K H a (ns.map V.int) → sp [.ref a] H (fun v _ => v = .bl true) fun _ _ _ => False) ∧
      ∀ base : Heap, K.In base → base.Ns mainGlobals mg → FnOk P w K mg base CX0 11 fa fd ["_law_script"] sp := by
  obtain ⟨f, fd, F, hm⟩ := T.d_law.ex
  rw [hmg] at hm
  cases hm
  have b := FunD.bindsA (ps := ["_law_script"]) F fun _ _ _ _ _ _ us hl => match us, hl with | [_], _ => rfl
  refine ⟨K, fd, sp_lawM K, KX, fun s v => b s [v] rfl, fun H a ns hl hO hS => ?_, fun base _ _ => c_law (P := P) (w := w) (base := base) T F p_law⟩
  exact ⟨a, ns, rfl, hS, hl, fun _ => rfl⟩

end My
namespace My
open PySem PySem.Spec PyProof.Rows L2
def hd0 : DefP := ⟨fun K => He.ga K "is_word", "is_word", "is_word", defArgs s_is_word, defBody s_is_word, defScope s_is_word, [], [], none⟩
def hd1 : DefP := ⟨fun K => He.ga K "is_value", "is_value", "is_value", defArgs s_is_value, defBody s_is_value, defScope s_is_value, [], [], none⟩
def hd2 : DefP := ⟨fun K => He.ga K "plain_text", "plain_text", "plain_text", defArgs s_plain_text, defBody s_plain_text, defScope s_plain_text, [], [], none⟩
def hd3 : DefP := ⟨fun K => He.ga K "is_plain", "is_plain", "is_plain", defArgs s_is_plain, defBody s_is_plain, defScope s_is_plain, [], [], none⟩
def hd4 : DefP := ⟨fun K => He.ga K "escaped", "escaped", "escaped", defArgs s_escaped, defBody s_escaped, defScope s_escaped, [], [], none⟩
def hd5 : DefP := ⟨fun K => He.ga K "value_at", "value_at", "value_at", defArgs s_value_at, defBody s_value_at, defScope s_value_at, [], [], none⟩
def hd6 : DefP := ⟨fun K => He.ga K "read_name", "read_name", "read_name", defArgs s_read_name, defBody s_read_name, defScope s_read_name, [], [], none⟩
def hd7 : DefP := ⟨fun K => He.ga K "leaf_text", "leaf_text", "leaf_text", defArgs s_leaf_text, defBody s_leaf_text, defScope s_leaf_text, [], [], none⟩
def hd8 : DefP := ⟨fun K => He.ga K "normal_leaf", "normal_leaf", "normal_leaf", defArgs s_normal_leaf, defBody s_normal_leaf, defScope s_normal_leaf, [], [], none⟩
def hd9 : DefP := ⟨fun K => He.ga K "name_text", "name_text", "name_text", defArgs s_name_text, defBody s_name_text, defScope s_name_text, [], [], none⟩
def hd10 : DefP := ⟨fun K => He.ga K "order_of", "order_of", "order_of", defArgs s_order_of, defBody s_order_of, defScope s_order_of, [], [], none⟩
def hd11 : DefP := ⟨fun K => He.ga K "_law_source", "_law_source", "_law_source", defArgs s_l_source, defBody s_l_source, defScope s_l_source, [], [], none⟩
def hd12 : DefP := ⟨fun K => He.ga K "_law_next", "_law_next", "_law_next", defArgs s_l_next, defBody s_l_next, defScope s_l_next, [], [], none⟩
def hd13 : DefP := ⟨fun K => He.ga K "_law_pick", "_law_pick", "_law_pick", defArgs s_l_pick, defBody s_l_pick, defScope s_l_pick, [], [], none⟩
def hd14 : DefP := ⟨fun K => He.ga K "_law_rounds", "_law_rounds", "_law_rounds", defArgs s_l_rounds, defBody s_l_rounds, defScope s_l_rounds, [], [], none⟩
def hd15 : DefP := ⟨fun K => He.ga K "_law_is_word", "_law_is_word", "_law_is_word", defArgs s_l_is_word, defBody s_l_is_word, defScope s_l_is_word, [], [], none⟩
def hd16 : DefP := ⟨fun K => He.ga K "_law_is_text", "_law_is_text", "_law_is_text", defArgs s_l_is_text, defBody s_l_is_text, defScope s_l_is_text, [], [], none⟩
def hd17 : DefP := ⟨fun K => He.ga K "_law_split", "_law_split", "_law_split", defArgs s_l_split, defBody s_l_split, defScope s_l_split, [], [], none⟩
def hd18 : DefP := ⟨fun K => He.ga K "_law_bare", "_law_bare", "_law_bare", defArgs s_l_bare, defBody s_l_bare, defScope s_l_bare, [], [], none⟩
def hd19 : DefP := ⟨fun K => He.ga K "_law_leaf", "_law_leaf", "_law_leaf", defArgs s_l_leaf, defBody s_l_leaf, defScope s_l_leaf, [], [], none⟩
def hd20 : DefP := ⟨fun K => He.ga K "_law_name", "_law_name", "_law_name", defArgs s_l_name, defBody s_l_name, defScope s_l_name, [], [], none⟩
def hd21 : DefP := ⟨fun K => He.ga K "_law_low", "_law_low", "_law_low", defArgs s_l_low, defBody s_l_low, defScope s_l_low, [], [], none⟩
def hd22 : DefP := ⟨fun K => He.ga K "_law_escaped", "_law_escaped", "_law_escaped", defArgs s_l_escaped, defBody s_l_escaped, defScope s_l_escaped, [], [], none⟩
def hd23 : DefP := ⟨fun K => He.ga K "_law_leaf_line", "_law_leaf_line", "_law_leaf_line", defArgs s_l_leaf_line, defBody s_l_leaf_line, defScope s_l_leaf_line, [], [], none⟩
def hd24 : DefP := ⟨fun K => He.ga K "_law_low_leaf", "_law_low_leaf", "_law_low_leaf", defArgs s_l_low_leaf, defBody s_l_low_leaf, defScope s_l_low_leaf, [], [], none⟩
def hd25 : DefP := ⟨fun K => He.ga K "_law_line", "_law_line", "_law_line", defArgs s_l_line, defBody s_l_line, defScope s_l_line, [], [], none⟩
def hd26 : DefP := ⟨fun K => He.ga K "_law_low_line", "_law_low_line", "_law_low_line", defArgs s_l_low_line, defBody s_l_low_line, defScope s_l_low_line, [], [], none⟩
def hd27 : DefP := ⟨fun K => He.ga K "_law_drawn", "_law_drawn", "_law_drawn", defArgs s_l_drawn, defBody s_l_drawn, defScope s_l_drawn, [], [], none⟩
def hd28 : DefP := ⟨fun K => He.ga K "_law_read", "_law_read", "_law_read", defArgs s_l_read, defBody s_l_read, defScope s_l_read, [], [], none⟩
def hd29 : DefP := ⟨fun K => He.ga K "_law_pairs_told", "_law_pairs_told", "_law_pairs_told", defArgs s_l_pairs_told, defBody s_l_pairs_told, defScope s_l_pairs_told, [], [], none⟩
def hd30 : DefP := ⟨fun K => He.ga K "_law_one_right", "_law_one_right", "_law_one_right", defArgs s_l_one_right, defBody s_l_one_right, defScope s_l_one_right, [], [], none⟩
def hd31 : DefP := ⟨fun K => He.ga K "law", "law", "law", defArgs s_law, defBody s_law, defScope s_law, [], [], none⟩
def hd32 : DefP := ⟨fun K => (He.ma K (He.ga K "Name") "__init__"), "__init__", "Name.__init__", defArgs s_Name___init, defBody s_Name___init, defScope s_Name___init, [He.Dv.str ""], [], none⟩
def hd33 : DefP := ⟨fun K => (gp K "Name" "text"), "text", "Name.text", defArgs s_Name_text, defBody s_Name_text, defScope s_Name_text, [], [], none⟩
def hd34 : DefP := ⟨fun K => (gp K "Name" "normal"), "normal", "Name.normal", defArgs s_Name_normal, defBody s_Name_normal, defScope s_Name_normal, [], [], none⟩
def hd35 : DefP := ⟨fun K => (gp K "Name" "parent"), "parent", "Name.parent", defArgs s_Name_parent, defBody s_Name_parent, defScope s_Name_parent, [], [], none⟩
def hd36 : DefP := ⟨fun K => (gp K "Name" "pairs"), "pairs", "Name.pairs", defArgs s_Name_pairs, defBody s_Name_pairs, defScope s_Name_pairs, [], [], none⟩
def hd37 : DefP := ⟨fun K => (gp K "Name" "depth"), "depth", "Name.depth", defArgs s_Name_depth, defBody s_Name_depth, defScope s_Name_depth, [], [], none⟩
def hd38 : DefP := ⟨fun K => (He.ma K (He.ga K "Name") "__eq__"), "__eq__", "Name.__eq__", defArgs s_Name___eq, defBody s_Name___eq, defScope s_Name___eq, [], [], none⟩
def hd39 : DefP := ⟨fun K => He.ma K (He.ga K "BadName") "__init__", "__init__", "BadName.__init__", defArgs s_BadName___init, defBody s_BadName___init, defScope s_BadName___init, [], [], some (fun K => He.ga K "BadName", fileS)⟩
def hfn0 : List DefP := [hd0, hd1, hd2, hd3, hd4, hd5, hd6, hd7, hd8, hd9, hd10, hd11, hd12, hd13, hd14, hd15, hd16, hd17, hd18, hd19, hd20, hd21, hd22, hd23, hd24, hd25, hd26, hd27, hd28, hd29]
def hfn1 : List DefP := [hd30, hd31, hd32, hd33, hd34, hd35, hd36, hd37, hd38, hd39]
def hfn : List DefP := hfn0 ++ hfn1
def hloose0 : List Str := ["_wall", "Invalid", "BadName", "LETTERS", "MAX_WORD", "MAX_TEXT", "MAX_PAIRS", "MAX_LEAVES", "BACKSLASH", "ESCAPED", "is_word", "is_value", "plain_text", "is_plain", "escaped", "value_at", "read_name", "leaf_text", "normal_leaf", "name_text", "order_of", "is_leaf_text", "Name", "need_leaf", "_law_source", "_law_next", "_law_pick", "_law_rounds", "_law_is_word", "_law_is_text"]
def hloose1 : List Str := ["_law_split", "_law_bare", "_law_leaf", "_law_name", "_law_low", "_law_escaped", "_law_leaf_line", "_law_low_leaf", "_law_line", "_law_low_line", "_law_drawn", "_law_read", "_law_pairs_told", "_law_one_right"]
def hloose : List Str := hloose0 ++ hloose1
def hbs0 : List (PySem.W.Frag → Bool) := [fun K => ctB K ctab, fun K => (He.Fa.glo "BadName").ok K, fun K => (He.Fa.glo "Name").ok K, fun K => (He.Fa.mkr "Name").ok K, fun K => propsB K ["Name"] "depth" (gp K "Name" "depth"), fun K => propsB K ["Name"] "normal" (gp K "Name" "normal"), fun K => propsB K ["Name"] "pairs" (gp K "Name" "pairs"), fun K => propsB K ["Name"] "parent" (gp K "Name" "parent"), fun K => propsB K ["Name"] "text" (gp K "Name" "text"), fun K => errKB K (He.ga K "BadName") "ValueError" "ValueError.__new__" "ValueError.__init__" [.type "ValueError", .type "Exception", .type "BaseException", .type "object"] (He.ma K (He.ga K "BadName") "__init__") (nmS ["given"]), fun K => ecB K ecs, fun K => erB K ecs efs, fun K => methB K ["Name"] "__eq__" (He.ma K (He.ga K "Name") "__eq__"), fun K => (He.Fa.glo "is_word").ok K, fun K => (He.Fa.glo "is_value").ok K, fun K => (He.Fa.glo "plain_text").ok K, fun K => (He.Fa.glo "is_plain").ok K, fun K => (He.Fa.glo "escaped").ok K, fun K => (He.Fa.glo "value_at").ok K, fun K => (He.Fa.glo "read_name").ok K, fun K => (He.Fa.glo "leaf_text").ok K, fun K => (He.Fa.glo "normal_leaf").ok K, fun K => (He.Fa.glo "name_text").ok K, fun K => (He.Fa.glo "order_of").ok K, fun K => (He.Fa.glo "_law_source").ok K, fun K => (He.Fa.glo "_law_next").ok K, fun K => (He.Fa.glo "_law_pick").ok K, fun K => (He.Fa.glo "_law_rounds").ok K, fun K => (He.Fa.glo "_law_is_word").ok K, fun K => (He.Fa.glo "_law_is_text").ok K]
def hbs1 : List (PySem.W.Frag → Bool) := [fun K => (He.Fa.glo "_law_split").ok K, fun K => (He.Fa.glo "_law_bare").ok K, fun K => (He.Fa.glo "_law_leaf").ok K, fun K => (He.Fa.glo "_law_name").ok K, fun K => (He.Fa.glo "_law_low").ok K, fun K => (He.Fa.glo "_law_escaped").ok K, fun K => (He.Fa.glo "_law_leaf_line").ok K, fun K => (He.Fa.glo "_law_low_leaf").ok K, fun K => (He.Fa.glo "_law_line").ok K, fun K => (He.Fa.glo "_law_low_line").ok K, fun K => (He.Fa.glo "_law_drawn").ok K, fun K => (He.Fa.glo "_law_read").ok K, fun K => (He.Fa.glo "_law_pairs_told").ok K, fun K => (He.Fa.glo "_law_one_right").ok K, fun K => (He.Fa.glo "law").ok K, fun K => (He.Fa.free "len").ok K, fun K => (He.Fa.free "isinstance").ok K, fun K => (He.Fa.free "str").ok K, fun K => (He.Fa.free "all").ok K, fun K => (He.Fa.free "enumerate").ok K, fun K => (He.Fa.free "tuple").ok K, fun K => (He.Fa.free "sorted").ok K, fun K => (He.Fa.free "int").ok K, fun K => (He.Fa.free "sum").ok K, fun K => (He.Fa.free "list").ok K, fun K => (He.Fa.free "range").ok K, fun K => (He.Fa.free "super").ok K, fun K => (He.Fa.int "MAX_WORD" 12).ok K, fun K => (He.Fa.str "LETTERS" "abcdefghijklmnopqrstuvwxyz").ok K, fun K => (He.Fa.int "MAX_TEXT" 60).ok K]
def hbs2 : List (PySem.W.Frag → Bool) := [fun K => (He.Fa.str "ESCAPED" ",+=\\").ok K, fun K => (He.Fa.str "BACKSLASH" "\\").ok K, fun K => (He.Fa.int "MAX_PAIRS" 4).ok K, fun K => (He.Fa.int "MAX_LEAVES" 12).ok K]
def hbs : List (PySem.W.Frag → Bool) := hbs0 ++ hbs1 ++ hbs2
def hex (K : PySem.W.Frag) : Bool := hbs.all fun f => f K
abbrev hR : PySem.W.OpenRow := PySem.W.OpenLaw.row PySem.Challenge.rw_dirservice_k11_whole_reading
abbrev hhk : PySem.W.Hook := hookY 8 hex hfn
def hob (s : PySem.W.SharedT) : AlY := obsY 8 hex hfn (HandSHeadRun.getT s)
theorem hob_eq (s : PySem.W.SharedT) : hob s = hhk.obs s.abs := obsY_eq (HandSHeadRun.getT_eq s)
theorem hrun (w : World) : HandSHeadRun.RunEq hR (PySem.W.view hR.prog [48]) hhk hob 4140 hloose w := by
  intro os
  kernel_rfl
theorem hfact {K : PySem.W.Frag} (c : SaysY hex hfn K) (i : Nat) {f : PySem.W.Frag → Bool} (h : hbs[i]? = some f) : f K = true := List.all_eq_true.mp (show (hbs.all fun f => f K) = true from c.more) f (List.mem_of_getElem? h)
theorem tx_of {K : PySem.W.Frag} {h : Heap} {mg : Str → Option Value} (X : K.In h) (G : h.Ns mainGlobals mg) (c : SaysY hex hfn K) : Tx K mg where
  d_is_word := by
    obtain ⟨fd, F⟩ := c.def_ 0 (d := hd0) rfl
    have h := (hfact c 13 (f := fun K => (He.Fa.glo "is_word").ok K) rfl)
    exact ⟨_, fd, F, He.glo_ok X G h⟩
  d_is_value := by
    obtain ⟨fd, F⟩ := c.def_ 1 (d := hd1) rfl
    have h := (hfact c 14 (f := fun K => (He.Fa.glo "is_value").ok K) rfl)
    exact ⟨_, fd, F, He.glo_ok X G h⟩
  d_plain_text := by
    obtain ⟨fd, F⟩ := c.def_ 2 (d := hd2) rfl
    have h := (hfact c 15 (f := fun K => (He.Fa.glo "plain_text").ok K) rfl)
    exact ⟨_, fd, F, He.glo_ok X G h⟩
  d_is_plain := by
    obtain ⟨fd, F⟩ := c.def_ 3 (d := hd3) rfl
    have h := (hfact c 16 (f := fun K => (He.Fa.glo "is_plain").ok K) rfl)
    exact ⟨_, fd, F, He.glo_ok X G h⟩
  d_escaped := by
    obtain ⟨fd, F⟩ := c.def_ 4 (d := hd4) rfl
    have h := (hfact c 17 (f := fun K => (He.Fa.glo "escaped").ok K) rfl)
    exact ⟨_, fd, F, He.glo_ok X G h⟩
  d_value_at := by
    obtain ⟨fd, F⟩ := c.def_ 5 (d := hd5) rfl
    have h := (hfact c 18 (f := fun K => (He.Fa.glo "value_at").ok K) rfl)
    exact ⟨_, fd, F, He.glo_ok X G h⟩
  d_read_name := by
    obtain ⟨fd, F⟩ := c.def_ 6 (d := hd6) rfl
    have h := (hfact c 19 (f := fun K => (He.Fa.glo "read_name").ok K) rfl)
    exact ⟨_, fd, F, He.glo_ok X G h⟩
  d_leaf_text := by
    obtain ⟨fd, F⟩ := c.def_ 7 (d := hd7) rfl
    have h := (hfact c 20 (f := fun K => (He.Fa.glo "leaf_text").ok K) rfl)
    exact ⟨_, fd, F, He.glo_ok X G h⟩
  d_normal_leaf := by
    obtain ⟨fd, F⟩ := c.def_ 8 (d := hd8) rfl
    have h := (hfact c 21 (f := fun K => (He.Fa.glo "normal_leaf").ok K) rfl)
    exact ⟨_, fd, F, He.glo_ok X G h⟩
  d_name_text := by
    obtain ⟨fd, F⟩ := c.def_ 9 (d := hd9) rfl
    have h := (hfact c 22 (f := fun K => (He.Fa.glo "name_text").ok K) rfl)
    exact ⟨_, fd, F, He.glo_ok X G h⟩
  d_order_of := by
    obtain ⟨fd, F⟩ := c.def_ 10 (d := hd10) rfl
    have h := (hfact c 23 (f := fun K => (He.Fa.glo "order_of").ok K) rfl)
    exact ⟨_, fd, F, He.glo_ok X G h⟩
  d_l_source := by
    obtain ⟨fd, F⟩ := c.def_ 11 (d := hd11) rfl
    have h := (hfact c 24 (f := fun K => (He.Fa.glo "_law_source").ok K) rfl)
    exact ⟨_, fd, F, He.glo_ok X G h⟩
  d_l_next := by
    obtain ⟨fd, F⟩ := c.def_ 12 (d := hd12) rfl
    have h := (hfact c 25 (f := fun K => (He.Fa.glo "_law_next").ok K) rfl)
    exact ⟨_, fd, F, He.glo_ok X G h⟩
  d_l_pick := by
    obtain ⟨fd, F⟩ := c.def_ 13 (d := hd13) rfl
    have h := (hfact c 26 (f := fun K => (He.Fa.glo "_law_pick").ok K) rfl)
    exact ⟨_, fd, F, He.glo_ok X G h⟩
  d_l_rounds := by
    obtain ⟨fd, F⟩ := c.def_ 14 (d := hd14) rfl
    have h := (hfact c 27 (f := fun K => (He.Fa.glo "_law_rounds").ok K) rfl)
    exact ⟨_, fd, F, He.glo_ok X G h⟩
  d_l_is_word := by
    obtain ⟨fd, F⟩ := c.def_ 15 (d := hd15) rfl
    have h := (hfact c 28 (f := fun K => (He.Fa.glo "_law_is_word").ok K) rfl)
    exact ⟨_, fd, F, He.glo_ok X G h⟩
  d_l_is_text := by
    obtain ⟨fd, F⟩ := c.def_ 16 (d := hd16) rfl
    have h := (hfact c 29 (f := fun K => (He.Fa.glo "_law_is_text").ok K) rfl)
    exact ⟨_, fd, F, He.glo_ok X G h⟩
  d_l_split := by
    obtain ⟨fd, F⟩ := c.def_ 17 (d := hd17) rfl
    have h := (hfact c 30 (f := fun K => (He.Fa.glo "_law_split").ok K) rfl)
    exact ⟨_, fd, F, He.glo_ok X G h⟩
  d_l_bare := by
    obtain ⟨fd, F⟩ := c.def_ 18 (d := hd18) rfl
    have h := (hfact c 31 (f := fun K => (He.Fa.glo "_law_bare").ok K) rfl)
    exact ⟨_, fd, F, He.glo_ok X G h⟩
  d_l_leaf := by
    obtain ⟨fd, F⟩ := c.def_ 19 (d := hd19) rfl
    have h := (hfact c 32 (f := fun K => (He.Fa.glo "_law_leaf").ok K) rfl)
    exact ⟨_, fd, F, He.glo_ok X G h⟩
  d_l_name := by
    obtain ⟨fd, F⟩ := c.def_ 20 (d := hd20) rfl
    have h := (hfact c 33 (f := fun K => (He.Fa.glo "_law_name").ok K) rfl)
    exact ⟨_, fd, F, He.glo_ok X G h⟩
  d_l_low := by
    obtain ⟨fd, F⟩ := c.def_ 21 (d := hd21) rfl
    have h := (hfact c 34 (f := fun K => (He.Fa.glo "_law_low").ok K) rfl)
    exact ⟨_, fd, F, He.glo_ok X G h⟩
  d_l_escaped := by
    obtain ⟨fd, F⟩ := c.def_ 22 (d := hd22) rfl
    have h := (hfact c 35 (f := fun K => (He.Fa.glo "_law_escaped").ok K) rfl)
    exact ⟨_, fd, F, He.glo_ok X G h⟩
  d_l_leaf_line := by
    obtain ⟨fd, F⟩ := c.def_ 23 (d := hd23) rfl
    have h := (hfact c 36 (f := fun K => (He.Fa.glo "_law_leaf_line").ok K) rfl)
    exact ⟨_, fd, F, He.glo_ok X G h⟩
  d_l_low_leaf := by
    obtain ⟨fd, F⟩ := c.def_ 24 (d := hd24) rfl
    have h := (hfact c 37 (f := fun K => (He.Fa.glo "_law_low_leaf").ok K) rfl)
    exact ⟨_, fd, F, He.glo_ok X G h⟩
  d_l_line := by
    obtain ⟨fd, F⟩ := c.def_ 25 (d := hd25) rfl
    have h := (hfact c 38 (f := fun K => (He.Fa.glo "_law_line").ok K) rfl)
    exact ⟨_, fd, F, He.glo_ok X G h⟩
  d_l_low_line := by
    obtain ⟨fd, F⟩ := c.def_ 26 (d := hd26) rfl
    have h := (hfact c 39 (f := fun K => (He.Fa.glo "_law_low_line").ok K) rfl)
    exact ⟨_, fd, F, He.glo_ok X G h⟩
  d_l_drawn := by
    obtain ⟨fd, F⟩ := c.def_ 27 (d := hd27) rfl
    have h := (hfact c 40 (f := fun K => (He.Fa.glo "_law_drawn").ok K) rfl)
    exact ⟨_, fd, F, He.glo_ok X G h⟩
  d_l_read := by
    obtain ⟨fd, F⟩ := c.def_ 28 (d := hd28) rfl
    have h := (hfact c 41 (f := fun K => (He.Fa.glo "_law_read").ok K) rfl)
    exact ⟨_, fd, F, He.glo_ok X G h⟩
  d_l_pairs_told := by
    obtain ⟨fd, F⟩ := c.def_ 29 (d := hd29) rfl
    have h := (hfact c 42 (f := fun K => (He.Fa.glo "_law_pairs_told").ok K) rfl)
    exact ⟨_, fd, F, He.glo_ok X G h⟩
  d_l_one_right := by
    obtain ⟨fd, F⟩ := c.def_ 30 (d := hd30) rfl
    have h := (hfact c 43 (f := fun K => (He.Fa.glo "_law_one_right").ok K) rfl)
    exact ⟨_, fd, F, He.glo_ok X G h⟩
  d_law := by
    obtain ⟨fd, F⟩ := c.def_ 31 (d := hd31) rfl
    have h := (hfact c 44 (f := fun K => (He.Fa.glo "law").ok K) rfl)
    exact ⟨_, fd, F, He.glo_ok X G h⟩
  d_Name___init := by
    obtain ⟨fd, F⟩ := c.def_ 32 (d := hd32) rfl
    exact ⟨fd, F⟩
  d_Name_text := by
    obtain ⟨fd, F⟩ := c.def_ 33 (d := hd33) rfl
    exact ⟨fd, F⟩
  d_Name_normal := by
    obtain ⟨fd, F⟩ := c.def_ 34 (d := hd34) rfl
    exact ⟨fd, F⟩
  d_Name_parent := by
    obtain ⟨fd, F⟩ := c.def_ 35 (d := hd35) rfl
    exact ⟨fd, F⟩
  d_Name_pairs := by
    obtain ⟨fd, F⟩ := c.def_ 36 (d := hd36) rfl
    exact ⟨fd, F⟩
  d_Name_depth := by
    obtain ⟨fd, F⟩ := c.def_ 37 (d := hd37) rfl
    exact ⟨fd, F⟩
  d_Name___eq := by
    obtain ⟨fd, F⟩ := c.def_ 38 (d := hd38) rfl
    exact ⟨fd, F⟩
  G := by
    have h := (hfact c 0 (f := fun K => ctB K ctab) rfl)
    exact ctB_ok h
  k_BadName := by
    have h := (hfact c 1 (f := fun K => (He.Fa.glo "BadName").ok K) rfl)
    exact He.glo_ok X G h
  k_Name := by
    have h := (hfact c 2 (f := fun K => (He.Fa.glo "Name").ok K) rfl)
    exact He.glo_ok X G h
  mk_Name := by
    have h := (hfact c 3 (f := fun K => (He.Fa.mkr "Name").ok K) rfl)
    exact He.mkr_ok h
  p_Name_depth := by
    have h := (hfact c 4 (f := fun K => propsB K ["Name"] "depth" (gp K "Name" "depth")) rfl)
    exact propsB_ok h
  p_Name_normal := by
    have h := (hfact c 5 (f := fun K => propsB K ["Name"] "normal" (gp K "Name" "normal")) rfl)
    exact propsB_ok h
  p_Name_pairs := by
    have h := (hfact c 6 (f := fun K => propsB K ["Name"] "pairs" (gp K "Name" "pairs")) rfl)
    exact propsB_ok h
  p_Name_parent := by
    have h := (hfact c 7 (f := fun K => propsB K ["Name"] "parent" (gp K "Name" "parent")) rfl)
    exact propsB_ok h
  p_Name_text := by
    have h := (hfact c 8 (f := fun K => propsB K ["Name"] "text" (gp K "Name" "text")) rfl)
    exact propsB_ok h
  er_BadName := by
    have h := (hfact c 9 (f := fun K => errKB K (He.ga K "BadName") "ValueError" "ValueError.__new__" "ValueError.__init__" [.type "ValueError", .type "Exception", .type "BaseException", .type "object"] (He.ma K (He.ga K "BadName") "__init__") (nmS ["given"])) rfl)
    exact errT_of (d := hd39) (Cf := fun K => He.ga K "BadName") eb_ValueError h rfl rfl rfl rfl (c.obs_ 39 (d := hd39) rfl) ⟨rfl, rfl, rfl, by decide +kernel, by decide +kernel, by decide +kernel, by decide +kernel, by decide +kernel, by decide +kernel⟩ ⟨⟨_, _, _, _, _, _, _, _, rfl, by decide⟩, ⟨_, _, _, _, rfl⟩⟩ ⟨_, rfl, rfl⟩ (fun _ _ _ _ us _ _ _ _ _ hl => match us, hl with | [_], _ => BindsTo.of_eq (by rfl)) (by decide +kernel) (by decide +kernel) (by decide)
  Ec := by
    have h := (hfact c 10 (f := fun K => ecB K ecs) rfl)
    exact ecB_ok h
  Er := by
    have h := (hfact c 11 (f := fun K => erB K ecs efs) rfl)
    exact erB_ok h
  mt_Name___eq := by
    have h := (hfact c 12 (f := fun K => methB K ["Name"] "__eq__" (He.ma K (He.ga K "Name") "__eq__")) rfl)
    exact methB_ok h
  b_len := by
    have h := (hfact c 45 (f := fun K => (He.Fa.free "len").ok K) rfl)
    exact He.free_ok X G h
  b_isinstance := by
    have h := (hfact c 46 (f := fun K => (He.Fa.free "isinstance").ok K) rfl)
    exact He.free_ok X G h
  b_str := by
    have h := (hfact c 47 (f := fun K => (He.Fa.free "str").ok K) rfl)
    exact He.free_ok X G h
  b_all := by
    have h := (hfact c 48 (f := fun K => (He.Fa.free "all").ok K) rfl)
    exact He.free_ok X G h
  b_enumerate := by
    have h := (hfact c 49 (f := fun K => (He.Fa.free "enumerate").ok K) rfl)
    exact He.free_ok X G h
  b_tuple := by
    have h := (hfact c 50 (f := fun K => (He.Fa.free "tuple").ok K) rfl)
    exact He.free_ok X G h
  b_sorted := by
    have h := (hfact c 51 (f := fun K => (He.Fa.free "sorted").ok K) rfl)
    exact He.free_ok X G h
  b_int := by
    have h := (hfact c 52 (f := fun K => (He.Fa.free "int").ok K) rfl)
    exact He.free_ok X G h
  b_sum := by
    have h := (hfact c 53 (f := fun K => (He.Fa.free "sum").ok K) rfl)
    exact He.free_ok X G h
  b_list := by
    have h := (hfact c 54 (f := fun K => (He.Fa.free "list").ok K) rfl)
    exact He.free_ok X G h
  b_range := by
    have h := (hfact c 55 (f := fun K => (He.Fa.free "range").ok K) rfl)
    exact He.free_ok X G h
  b_super := by
    have h := (hfact c 56 (f := fun K => (He.Fa.free "super").ok K) rfl)
    exact He.free_ok X G h
  g_MAX_WORD := by
    have h := (hfact c 57 (f := fun K => (He.Fa.int "MAX_WORD" 12).ok K) rfl)
    exact He.int_ok X G h
  g_LETTERS := by
    have h := (hfact c 58 (f := fun K => (He.Fa.str "LETTERS" "abcdefghijklmnopqrstuvwxyz").ok K) rfl)
    exact He.str_ok X G h
  g_MAX_TEXT := by
    have h := (hfact c 59 (f := fun K => (He.Fa.int "MAX_TEXT" 60).ok K) rfl)
    exact He.int_ok X G h
  g_ESCAPED := by
    have h := (hfact c 60 (f := fun K => (He.Fa.str "ESCAPED" ",+=\\").ok K) rfl)
    exact He.str_ok X G h
  g_BACKSLASH := by
    have h := (hfact c 61 (f := fun K => (He.Fa.str "BACKSLASH" "\\").ok K) rfl)
    exact He.str_ok X G h
  g_MAX_PAIRS := by
    have h := (hfact c 62 (f := fun K => (He.Fa.int "MAX_PAIRS" 4).ok K) rfl)
    exact He.int_ok X G h
  g_MAX_LEAVES := by
    have h := (hfact c 63 (f := fun K => (He.Fa.int "MAX_LEAVES" 12).ok K) rfl)
    exact He.int_ok X G h
instance : OkP fileS (PySem.Challenge.rw_dirservice_k11_whole_reading).prog := ⟨by kernel_rfl, by kernel_rfl⟩
end My
open PySem PySem.W PySem.Calls PyProof.Rows
set_option maxHeartbeats 0 in
theorem PySem.Challenge.cw_dirservice_k11_whole_reading_holds : PySem.Challenge.rw_dirservice_k11_whole_reading.Holds := by
  w_on; o_law
  refine HandSHeadRun.head_any (r := OpenLaw.row PySem.Challenge.rw_dirservice_k11_whole_reading) (q := view (OpenLaw.row PySem.Challenge.rw_dirservice_k11_whole_reading).prog [48]) (H := My.hhk) (ob := My.hob) (M := 4140) (loose := My.hloose) (d := HandSHeadRun.topDef (OpenLaw.row PySem.Challenge.rw_dirservice_k11_whole_reading).prog 48) (kwd := []) My.hob_eq
    (by kernel_rfl) (fun s => by kernel_rfl) My.hrun (by kernel_rfl) (by kernel_rfl) (by kernel_rfl) (by rfl) (by first | assumption | decide +kernel) (by decide +kernel) ⟨rfl, rfl, rfl, rfl, rfl, by decide +kernel⟩ ?hw ?hc
  case hw => w_witness2
  case hc =>
    refine L2.walk_ofE (l := PySem.Challenge.rw_dirservice_k11_whole_reading) (n := 63) (k := 11) (x := "_law_script") (CX := L2.CX0) rfl (by decide) (by kernel_rfl) ⟨rfl, by decide, by decide⟩ ?F (fun _ _ _ _ z => z)
    intro w mg fa h Y G hmg0
    obtain ⟨K, KX, c⟩ := Y
    have hmg : mg ("law" : PySem.Str) = some (.ref fa) := by
      have e : (HandSHeadRun.topDef (OpenLaw.row PySem.Challenge.rw_dirservice_k11_whole_reading).prog 48).name = ("law" : PySem.Str) := by kernel_rfl
      rw [← e]
      exact hmg0
    have T := My.tx_of KX G c
    exact My.law_end (P := (PySem.Challenge.rw_dirservice_k11_whole_reading).prog) (w := w) T KX hmg
