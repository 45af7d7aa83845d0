import PyProof.Rows.All
import Wide.All
import OpenK.AllK
import Wide.FinOn
import KE.KStateDown
import KE.GoesEnum
import Lean
import HandS.ForMost
import HandS.Evl
import HandS.Defaults
import HandS.Codes
import HandS.More
import HandS.Deep
import HandS.IsInst
import HandS.Wide
import HandS.Style
import HandS.StrMore
import HandS.TupAny
import HandS.SortRule
import KE.KSortTupAny
import KE.LtData
import HandS.Head0
import HandS.Head1
import HandS.Head2
import HandS.HeadEnd
import HandS.HeadHook1
import HandS.HeadHook2
import HandS.HeadHook3
import HandS.HeadHook4
import PySem.Challenge.RW_dirservice_k19_whole_entries_as_plain_di
import HandS.SlotsOwn
import HandS.Property
import OpenK.KMeth
import HandS.MakeKwOnly
import HandS.ClsMeth
import HandS.ExcOwn
import HandS.Zip
import HandS.MakeKw
import PyProof.InstNe
import KE.KRevSl
import PyProof.ReprRoads
import HandS.Ends
import KE.KCallOwn
import HandS.FStr
import HandS.ExcField
import HandS.ExcSuper
import HandS.TryOnly
import HandS.TryMany
import HandS.SuiteRaise
import KE.KExcSuper
import HandS.Lambda
import HandS.HeadNt
import HandS.Star
import HandS.OwnEq
import PyProof.EqKinds
import PyProof.FactsAll.dict
import HandS.ExcIs
import HandS.NestedK
import HandS.EndTab
import HandS.HeadWalk
import PyProof.NeKinds
import KE.KEqDict
import HandS.Small
import HandS.Iter
import HandS.Nested
import KE.KSuper
import KE.KOpsOwn
import KE.KTryMore
import PyProof.AutoSeq1
import KE.GoesMore
import PyProof.EnumMake
import HandS.Strs
import HandS.DictComp
import HandS.RaiseMore
import HandS.SetFor
set_option Elab.async false
set_option linter.all false
set_option maxRecDepth 100000
set_option maxHeartbeats 4000000
namespace My
open PySem PySem.Spec PyProof.Rows L2
structure Cal (P : Program) (w : World) (K : PySem.W.Frag) (mg : Str → Option Value) (base : Heap) (k : Nat) (x : Str) (ps : List Str) (sp : Sp) : Prop where
  ex : ∃ f fd, FnOk P w K mg base CX0 k f fd ps sp ∧ mg x = some (.ref f) ∧ PySem.W.keepIn K (.ref f) = true ∧ Binds K fd ps [] ∧ ∃ oc od osl, K.lookup f = some ⟨oc, od, .func fd, osl⟩
theorem Cal.mono {P : Program} {w : World} {K : PySem.W.Frag} {mg : Str → Option Value} {base : Heap} {k j : Nat} {x : Str} {ps : List Str} {sp : Sp} (C : Cal P w K mg base k x ps sp) (h : k ≤ j) : Cal P w K mg base j x ps sp := by
  obtain ⟨f, fd, F, r⟩ := C.ex
  exact ⟨f, fd, F.mono h, r⟩
theorem Paired_imp {α β : Type} {F G : α → β → Prop} (h : ∀ a b, F a b → G a b) : ∀ {xs : List α} {ys : List β}, Paired F xs ys → Paired G xs ys
  | _, _, .nil => .nil
  | _, _, .cons a b => .cons (h _ _ a) (Paired_imp h b)
def pres (M : Addr → Prop) (H H' : Hp) : Prop := ∀ a o, ¬ M a → H a = some o → H' a = some o
theorem pres.refl {M : Addr → Prop} (H : Hp) : pres M H H := fun _ _ _ h => h
theorem pres.trans {M : Addr → Prop} {H H1 H2 : Hp} (a : pres M H H1) (b : pres M H1 H2) : pres M H H2 := fun x o m h => b x o m (a x o m h)
theorem pres.ex {M : Addr → Prop} {H H1 : Hp} (a : Evl.Ex H H1) : pres M H H1 := fun x o _ h => a x o h
theorem pres.wider {M M' : Addr → Prop} (w : ∀ a, M a → M' a) {H H1 : Hp} (a : pres M H H1) : pres M' H H1 := fun x o m h => a x o (fun z => m (w x z)) h
/-- M: the addresses that may change; J n: what holds of them while n draws may still come -/
structure Rel where
  M : Addr → Prop
  J : Nat → Hp → Prop
  alive : ∀ {n H a}, J n H → M a → H a ≠ none
  loc : ∀ {n H H'}, J n H → (∀ a, M a → H' a = H a) → J n H'
  dec : ∀ {n m H}, J n H → m ≤ n → J m H
theorem Rel.mono (R : Rel) {n : Nat} {H H' : Hp} (j : R.J n H) (e : Evl.Ex H H') : R.J n H' := R.loc j fun a m => by
  cases h : H a with
  | none => exact absurd h (R.alive j m)
  | some o => exact e a o h
theorem Rel.put (R : Rel) {n : Nat} {H : Hp} {p : Addr} {o : HO} (j : R.J n H) (m : ¬ R.M p) : R.J n (upd H p o) := R.loc j fun a ma => upd_ne fun e => m (by rw [← e]; exact ma)
/-- H1 is to come behind H, n draws may come from there on -/
def Rel.ok (R : Rel) (n : Nat) (H H1 : Hp) : Prop := R.J n H1 ∧ pres R.M H H1
theorem Rel.self (R : Rel) {n : Nat} {H : Hp} (e : R.J n H) : R.ok n H H := ⟨e, pres.refl H⟩
theorem Rel.trans (R : Rel) {n m : Nat} {H H1 H2 : Hp} (a : R.ok n H H1) (b : R.ok m H1 H2) : R.ok m H H2 := ⟨b.1, a.2.trans b.2⟩
theorem Rel.ex (R : Rel) {n : Nat} {H H1 : Hp} (j : R.J n H) (e : Evl.Ex H H1) : R.ok n H H1 := ⟨R.mono j e, pres.ex e⟩
theorem Rel.new (R : Rel) {n : Nat} {H : Hp} {p : Addr} {o : HO} (j : R.J n H) (h : H p = none) : R.ok n H (upd H p o) := R.ex j (Evl.Ex.new h)
/-- a property of a value that stays true while all but M stays, whatever M is -/
structure SP where
  P : (Addr → Prop) → V → Hp → Prop
  st : ∀ {M v H H'}, pres M H H' → P M v H → P M v H'
  lift : ∀ {M M' v H}, (∀ a, M' a → M a ∨ H a = none) → P M v H → P M' v H
/-- a property of the value alone -/
def sat (G : V → Prop) : SP := ⟨fun _ x _ => G x, fun _ h => h, fun _ h => h⟩
section
variable {M M' : Addr → Prop} {K : PySem.W.Frag} {H H' : Hp}
/-- a list, a tuple that stays: tracked outside M, or written -/
def SqM (K : PySem.W.Frag) (M : Addr → Prop) (H : Hp) (p : Addr) (xs : List V) : Prop := (Rd H p (.lst xs) ∧ ¬ M p) ∨ ∀ H', SqL K H' p xs
def StM (K : PySem.W.Frag) (M : Addr → Prop) (H : Hp) (p : Addr) (xs : List V) : Prop := (Rd H p (.tup xs) ∧ ¬ M p) ∨ ∀ H', SqT K H' p xs
theorem rd_st {p : Addr} {o : HO} (e : pres M H H') (m : ¬ M p) (h : Rd H p o) : Rd H' p o := by
  rcases h with h | ⟨w, h⟩
  · exact .inl (e p _ m h)
  · exact .inr ⟨w, e p _ m h⟩
theorem rd_lift {p : Addr} {o : HO} (w : ∀ a, M' a → M a ∨ H a = none) (h : Rd H p o) (m : ¬ M p) : ¬ M' p := fun z => (w p z).elim m fun n => by
  rcases h with h | ⟨_, h⟩ <;> rw [n] at h <;> cases h
theorem SqM.st {p : Addr} {xs : List V} (e : pres M H H') (h : SqM K M H p xs) : SqM K M H' p xs := h.imp (fun a => ⟨rd_st e a.2 a.1, a.2⟩) id
theorem StM.st {p : Addr} {xs : List V} (e : pres M H H') (h : StM K M H p xs) : StM K M H' p xs := h.imp (fun a => ⟨rd_st e a.2 a.1, a.2⟩) id
theorem SqM.lift {p : Addr} {xs : List V} (w : ∀ a, M' a → M a ∨ H a = none) (h : SqM K M H p xs) : SqM K M' H p xs := h.imp (fun a => ⟨a.1, rd_lift w a.1 a.2⟩) id
theorem StM.lift {p : Addr} {xs : List V} (w : ∀ a, M' a → M a ∨ H a = none) (h : StM K M H p xs) : StM K M' H p xs := h.imp (fun a => ⟨a.1, rd_lift w a.1 a.2⟩) id
/-- a list of the run's own that stays -/
def LtM (M : Addr → Prop) (H : Hp) (p : Addr) (xs : List V) : Prop := H p = some (.lst xs) ∧ ¬ M p
theorem LtM.st {p : Addr} {xs : List V} (e : pres M H H') (h : LtM M H p xs) : LtM M H' p xs := ⟨e p _ h.2 h.1, h.2⟩
theorem LtM.lift {p : Addr} {xs : List V} (w : ∀ a, M' a → M a ∨ H a = none) (h : LtM M H p xs) : LtM M' H p xs := ⟨h.1, rd_lift w (.inl h.1) h.2⟩
end
def SP.ex {α : Type} (p : α → SP) : SP := ⟨fun M v H => ∃ a, (p a).P M v H, fun e ⟨a, h⟩ => ⟨a, (p a).st e h⟩, fun w ⟨a, h⟩ => ⟨a, (p a).lift w h⟩⟩
/-- a relation R' and a heap H' to which what is known by R at H is carried over -/
structure Ext (R : Rel) (H : Hp) (R' : Rel) (H' : Hp) : Prop where
  w : ∀ a, R'.M a → R.M a ∨ H a = none
  up : ∀ a, R.M a → R'.M a
  jr : ∀ n H1, R'.J n H1 → R.J n H1
  put : ∀ n m H1 a o, R.M a → R'.J n H1 → R.J m (upd H1 a o) → R'.J m (upd H1 a o)
  pr : pres R'.M H H'
theorem Ext.pre {R R' : Rel} {n : Nat} {H0 H H' : Hp} (e : R.ok n H0 H) (s : Ext R H R' H') : Ext R H0 R' H' := ⟨fun a m => (s.w a m).imp id fun n => by
  cases h : H0 a with
  | none => rfl
  | some o => exact absurd n (by
      by_cases m0 : R.M a
      · exact R.alive e.1 m0
      · rw [e.2 a o m0 h]
        exact fun z => nomatch z), s.up, s.jr, s.put, (e.2.wider s.up).trans s.pr⟩
section
variable {R : Rel} {n m k : Nat}
def EvP (R : Rel) (n m : Nat) (te : TE) (σ : L2.St) (H : Hp) (p : SP) : Prop := ∀ H1, R.ok n H H1 → ∀ Q : VK, (∀ v H2, R.ok m H1 H2 → p.P R.M v H2 → Q v H2) → te σ H1 Q
def EvT (R : Rel) (n m : Nat) (tt : TT) (σ : L2.St) (H : Hp) (G : Bool → Prop) : Prop := ∀ H1, R.ok n H H1 → ∀ Q : Bool → Hp → Prop, (∀ b H2, R.ok m H1 H2 → G b → Q b H2) → tt σ H1 Q
variable {K : PySem.W.Frag} {σ : L2.St} {H H' : Hp} {ta tb tc te : TE} {t u : TT} {x y z v : V} {r : R2} {p q s : SP}
theorem EvP.mono {j : Nat} (e : R.ok j H H') (h : EvP R n m te σ H p) : EvP R n m te σ H' p := fun H1 a Q k => h H1 (R.trans e a) Q k
theorem EvT.mono {j : Nat} {G : Bool → Prop} (e : R.ok j H H') (h : EvT R n m t σ H G) : EvT R n m t σ H' G := fun H1 a Q k => h H1 (R.trans e a) Q k
theorem EvP.imp (h : EvP R n m te σ H p) (k : ∀ v H1, R.ok m H H1 → p.P R.M v H1 → q.P R.M v H1) : EvP R n m te σ H q := fun H1 a Q f => h H1 a Q fun v H2 r2 hv => f v H2 r2 (k v H2 (R.trans a r2) hv)
theorem EvT.imp {G G' : Bool → Prop} (h : EvT R n m t σ H G) (k : ∀ b, G b → G' b) : EvT R n m t σ H G' := fun H1 a Q f => h H1 a Q fun v H2 r2 hv => f v H2 r2 (k v hv)
def StF (R : Rel) (n : Nat) (ts : TS) (D : Ends) (σ : L2.St) (H : Hp) : Prop := ∀ H1, R.ok n H H1 → ts D σ H1
variable {D : Ends} {tu tw tz : TS} {g : TG}
theorem StF.run {ts : TS} (h : StF R n ts D σ H) (j : R.J n H) : ts D σ H := h H (R.self j)
theorem StF.mono {ts : TS} {j : Nat} (e : R.ok j H H') (h : StF R n ts D σ H) : StF R n ts D σ H' := fun H1 a => h H1 (R.trans e a)
end
end My
namespace My
open PySem PySem.Spec PyProof.Rows L2
abbrev Codes := List Nat
/-- a text by its codes -/
abbrev sv (l : Codes) : V := .str (SX.S l)
abbrev cs (x : Str) : Codes := x.cps.toList
end My
namespace My
open PySem PySem.Spec PyProof.Rows L2
end My
namespace My
open PySem PySem.Spec PyProof.Rows L2
end My
namespace My
open PySem PySem.Spec PyProof.Rows L2
section
variable {R : Rel} {n m k : Nat} {K : PySem.W.Frag} {σ : L2.St} {H H' : Hp} {ta tb tc te : TE} {t u : TT} {x y z v : V} {p q s : SP} {D : Ends} {tu tw tz : TS} {g : TG} {a b : Codes}
abbrev tx (F : Codes → Prop) : SP := sat fun v => ∃ s, v = sv s ∧ F s
theorem StF.seq {ts : TS} (h : StF R n ts { D with nx := tz D } σ H) : StF R n (tSeq ts tz) D σ H := h
end
end My
namespace My
open PySem PySem.Spec PyProof.Rows L2
end My
namespace My
open PySem PySem.Spec PyProof.Rows L2
section
variable {R : Rel} {n m k : Nat} {K : PySem.W.Frag} {σ : L2.St} {H H' : Hp} {ta tb tc te : TE} {t u : TT} {x y z v : V} {p q s : SP} {D : Ends} {tu tw tz : TS} {g : TG} {a b : Codes}
/-- the values that are no texts -/
def NoStr (K : PySem.W.Frag) (M : Addr → Prop) (v : V) (H : Hp) : Prop := v = .non ∨ (∃ i, v = .int i) ∨ (∃ c, v = .bl c) ∨ (∃ l xs, v = .ref l ∧ H l = some (.lst xs) ∧ ¬ M l) ∨ (∃ l xs, v = .ref l ∧ StM K M H l xs) ∨ ∃ l, v = .ref l ∧ H l = some (.dK []) ∧ ¬ M l
theorem NoStr.ty {M : Addr → Prop} (h : NoStr K M v H) : ∃ tv, TyX K H v tv ∧ PySem.W.kitOne K tv (.type "str") = some false := by
  rcases h with rfl | ⟨i, rfl⟩ | ⟨c, rfl⟩ | ⟨l, xs, rfl, h, _⟩ | ⟨l, xs, rfl, ⟨h | ⟨o, h⟩, _⟩ | h⟩ | ⟨l, rfl, h, _⟩
  · exact ⟨_, .base .non, by rfl⟩
  · exact ⟨_, .base (.int i), by rfl⟩
  · exact ⟨_, .base (.bl c), by rfl⟩
  · exact ⟨_, .base (.lst h), by rfl⟩
  · exact ⟨_, .base (.tup h), by rfl⟩
  · exact ⟨_, .fTuple h, by rfl⟩
  · rcases h fun _ => none with h | ⟨o, its, n, e, c, _⟩
    · rcases h with h | ⟨_, h⟩ <;> cases h
    · exact ⟨_, .kTuple e c, by rfl⟩
  · exact ⟨_, .base (.dK h), by rfl⟩
end
end My
namespace My
open PySem PySem.Spec PyProof.Rows L2
end My
namespace My
open PySem PySem.Spec PyProof.Rows L2
end My
namespace My
open PySem PySem.Spec PyProof.Rows L2
end My
namespace My
open PySem PySem.Spec PyProof.Rows L2
section
variable (P : Program) (w : World) (K : PySem.W.Frag) (mg : Str → Option Value) (base : Heap) (CX : CXT)
structure CalF (k : Nat) (a : Addr) (x q : Str) (st : Stmt) (dvs : List V) (kvs : List (Str × V)) (ps : List Str) (sp : Sp) : Prop where
  ex : ∃ fd, FnOk P w K mg base CX k a fd ps sp ∧ FunD K x q (defArgs st) (defBody st) (defScope st) dvs kvs a fd
end
theorem CalF.mono {P : Program} {w : World} {K : PySem.W.Frag} {mg : Str → Option Value} {base : Heap} {CX : CXT} {j k : Nat} {a : Addr} {x q : Str} {st : Stmt} {dvs : List V} {kvs : List (Str × V)} {ps : List Str} {sp : Sp} (C : CalF P w K mg base CX j a x q st dvs kvs ps sp) (h : j ≤ k) : CalF P w K mg base CX k a x q st dvs kvs ps sp := by
  obtain ⟨fd, F, D⟩ := C.ex
  exact ⟨fd, F.mono h, D⟩
end My
namespace My
open PySem PySem.Spec PyProof.Rows L2 PySem.W
end My
namespace My
open PySem PySem.Spec PyProof.Rows L2
end My
namespace My
open PySem PySem.Spec PyProof.Rows L2
end My
namespace My
open PySem PySem.Spec PyProof.Rows L2
structure DefP where
  pa : PySem.W.Frag → Addr
  name : Str
  qual : Str
  params : Arguments
  body : List Stmt
  scope : Scope
  dfl : List He.Dv := []
  kwd : List (Str × He.Dv) := []
  /-- an __init__ that says super(): of which class, in which file -/
  err : Option ((PySem.W.Frag → Addr) × Str) := none
def fnP (K : PySem.W.Frag) (a : Addr) (cl : Bool := false) : He.FnW := match K.lookup a with
  | some ⟨_, _, .func g, _⟩ => some (g.name, g.qualname, g.params, g.body, g.scope, g.globals, (if cl then [] else g.closure), g.builtins)
  | _ => none
def fileB (vs : Array Value) (file : Str) : Bool := match (vs[2]? : Option Value) with
  | some (.str f _) => decide (f = file)
  | _ => false
/-- the closure holds the class, the code the file -/
def closB (K : PySem.W.Frag) (C : Addr) (file : Str) (g : FuncData) : Bool := (match g.closure with
    | [(n, cc)] => decide (n = ("__class__" : Str)) && (match K.lookup cc with
      | some ⟨_, _, .cell (some (.ref D)), _⟩ => decide (D = C)
      | _ => false)
    | _ => false) && (match g.code with
    | .ref cda => (match K.lookup cda with
      | some ⟨_, _, .fields vs, _⟩ => fileB vs file
      | _ => false)
    | _ => false)
def DefP.val (d : DefP) : He.FnW := some (d.name, d.qual, d.params, .stmts d.body, d.scope, mainGlobals, [], builtinsNs)
def DefP.dvs (K : PySem.W.Frag) (d : DefP) : List V := d.dfl.map (He.Dv.v K)
def DefP.kws (K : PySem.W.Frag) (d : DefP) : List (Str × V) := d.kwd.map fun q => (q.1, q.2.v K)
def DefP.ok (K : PySem.W.Frag) (d : DefP) : Bool := PySem.W.keepIn K (.ref (d.pa K)) && (match K.lookup (d.pa K) with
  | some ⟨_, _, .func g, _⟩ => PySem.W.codeIn K g.code d.qual && ((He.dflB K g.defaults (d.dvs K) && He.kwdB K g.kwdefaults (d.kws K)) && (match d.err with
    | some (C, f) => closB K (C K) f g
    | none => true))
  | _ => false)
abbrev AlY : Type := Bool × List He.FnW
def obsK (ex : PySem.W.Frag → Bool) (fn : List DefP) (K : PySem.W.Frag) : AlY := (ex K && fn.all (fun d => d.ok K), fn.map fun d => fnP K (d.pa K) d.err.isSome)
def valY (fn : List DefP) : AlY := (true, fn.map DefP.val)
def obsY (n : Nat) (ex : PySem.W.Frag → Bool) (fn : List DefP) (g : Addr → Option Obj) : AlY := obsK ex fn (He.frT g (He.asD g n ++ [cStatics, sysModules]))
structure SaysY (ex : PySem.W.Frag → Bool) (fn : List DefP) (K : PySem.W.Frag) : Prop where
  e : obsK ex fn K = valY fn
def hookY (n : Nat) (ex : PySem.W.Frag → Bool) (fn : List DefP) : PySem.W.Hook where
  α := AlY
  obs := fun s => obsY n ex fn s.heap.get?
  val := fun _ => valY fn
  says := fun _ h => ∃ K : PySem.W.Frag, K.In h ∧ SaysY ex fn K
  of := fun _ _ z => ⟨_, He.frT_in, ⟨z⟩⟩
  keeps := fun _ _ _ ⟨K, hK, c⟩ k => ⟨K, PySem.W.Frag.In.keeps hK k, c⟩
/-- the property's object, its getter -/
def pp (K : PySem.W.Frag) (c f : Str) : Addr := He.ma K (He.ga K c) f
def gp (K : PySem.W.Frag) (c f : Str) : Addr := match PySem.W.recIn K (pp K c f) "property" with
  | some (.ref g :: _) => g
  | _ => 0
def propB (K : PySem.W.Frag) (c : Str) (f : Str) (a : Addr) : Bool := decide (PySem.W.findIn K (.ref (He.ga K c)) f = some (some (.ref (pp K c f)))) && (decide (PySem.W.specialIn K (.ref (pp K c f)) "__get__" = some (some (.builtin "property.__get__"))) &&
  (decide (PySem.W.takesIn K (.ref (pp K c f)) = some true) && (match PySem.W.recIn K (pp K c f) "property" with
  | some (.ref g :: _) => decide (g = a)
  | _ => false)))
def propsB (K : PySem.W.Frag) (cs : List String) (f : String) (a : Addr) : Bool := cs.all fun c => propB K c f a
def methB (K : PySem.W.Frag) (cs : List String) (m : String) (a : Addr) : Bool := cs.all fun c => decide (PySem.W.findIn K (.ref (He.ga K c)) (m : Str) = some (some (.ref a))) && (PySem.W.isFn K (.ref a) && PySem.W.keepIn K (.ref a))
end My
namespace My
open PySem PySem.Spec PyProof.Rows L2
structure FnG (P : Program) (w : World) (K : PySem.W.Frag) (mg : Str → Option Value) (base : Heap) (CX : CXT) (k : Nat) (f : Addr) (fd : FuncData) (ps : List Str) (sp : Sp) : Prop where
  len : ∀ vs H Q E, sp vs H Q E → vs.length = ps.length
  run : ∀ (A : Around) (outer : List Env) (s : Shared) (H : Hp) (args : Args) (us : List Value) (vs : List V) (Q : VK) (E : XK), Room k A → A.guards = some [] → Env0 P w K mg base A outer s H → BindsTo s fd args (ps.zip us) → Vals vs us → sp vs H Q E →
    codeAny (model P w) A (.call (.ref f) args) (CR CX outer P w H s Q E) s
section
variable {P : Program} {w : World} {K : PySem.W.Frag} {mg : Str → Option Value} {base : Heap} {CX : CXT} {j k : Nat} {f : Addr} {fd : FuncData} {ps N : List Str} {sp : Sp} {x q : Str} {st : Stmt} {dvs : List V} {kvs : List (Str × V)}
theorem FnG.mono (F : FnG P w K mg base CX j f fd ps sp) (h : j ≤ k) : FnG P w K mg base CX k f fd ps sp := ⟨F.len, fun A outer s H args us vs Q E hr => F.run A outer s H args us vs Q E (hr.mono h)⟩
end
end My
namespace My
open PySem PySem.Spec PyProof.Rows L2 PySem.W PySem.HandSPX PySem.Calls PySem.Builtin PySem.Builtin.ObjectAttr
end My
namespace My
open PySem PySem.Spec PyProof.Rows L2 PySem.W PySem.HandSPX PySem.Calls
/-- what a program must have for super() -/
class OkP (file : Str) (P : Program) : Prop where
  file : ((P.main.file : Str) == file) = true
  top : (P.main.scope.names.lookup ("super" : Str)).isSome = false
def ErO (a : Addr) (cls : Value) (d : Option Addr) : HO := .ext fun h => ∃ (oe : Obj) (vs : Array Value), h.get? a = some oe ∧ Zc cls d oe ∧ oe.data = .fields vs
end My
namespace My
open PySem PySem.Spec PyProof.Rows L2
end My
namespace My
open PySem PySem.Spec PyProof.Rows L2
inductive D where
  | non | bl (b : Bool) | int (i : Int) | str (l : Codes) | ty (n : String)
  | tup (xs : List D) | lst (xs : List D) | wl (xs : List D) | ref (k : Nat)
  | cls (c : String) | obj (c : String) (ns : List String) (xs : List D) | dic (t : Bool) (ks xs : List D) | err (c : String) (ns : List String) (xs : List D)
  | fn (f d : Addr) (q : Str) (σ : L2.St) (hs : List Bool) (ds : List D)
  | any
/-- a row with holes, filled -/
def fillO {α : Type} : List Bool → List α → List (Option α)
  | [], _ => []
  | false :: r, vs => none :: fillO r vs
  | true :: r, [] => none :: fillO r []
  | true :: r, v :: vs => some v :: fillO r vs
/-- names of attributes as the program's texts -/
def nmS (ns : List String) : List Str := ns.map Str.ofString
def keyD : D → Option Key
  | .int i => some (.inl i)
  | .str l => some (.inr (SX.S l))
  | _ => none
def keysD : List D → Option (List Key)
  | [] => some []
  | d :: ds => match keyD d, keysD ds with
    | some k, some ks => some (k :: ks)
    | _, _ => none
def keyT : D → Option (List Key)
  | .tup ds => keysD ds
  | _ => none
def keysT : List D → Option (List (List Key))
  | [] => some []
  | d :: ds => match keyT d, keysT ds with
    | some k, some ks => some (k :: ks)
    | _, _ => none
/-- a dict with these keys and values; t: its keys are tuples -/
def dicO (t : Bool) (ks : List D) (vs : List V) : HO := match t with
  | false => .dK (((keysD ks).getD []).zip vs)
  | true => .dT (((keysT ks).getD []).zip vs)
def keysOk (t : Bool) (ks : List D) : Bool := match t with
  | false => (keysD ks).isSome
  | true => (keysT ks).isSome
abbrev AM (A : List Addr) (M : Addr → Prop) : Addr → Prop := fun a => a ∈ A ∨ M a
mutual
def RepD (K : PySem.W.Frag) (A : List Addr) (M : Addr → Prop) (H : Hp) : V → D → Prop
  | v, .non => v = .non
  | v, .bl b => v = .bl b
  | v, .int i => v = .int i
  | v, .str l => v = sv l
  | v, .ty n => v = .ty n
  | v, .tup ds => ∃ p vs, v = .ref p ∧ StM K (AM A M) H p vs ∧ RepL K A M H vs ds
  | v, .lst ds => ∃ p vs, v = .ref p ∧ LtM (AM A M) H p vs ∧ RepL K A M H vs ds
  | v, .wl ds => ∃ p vs, v = .ref p ∧ SqM K (AM A M) H p vs ∧ RepL K A M H vs ds
  | v, .ref k => ∃ a, v = .ref a ∧ A[k]? = some a
  | v, .cls c => v = .ref (He.ga K c)
  | v, .obj c ns ds => ∃ p x vs, v = .ref p ∧ (H p = some (.ins (He.ga K c) x ((nmS ns).zip vs)) ∧ ¬ AM A M p) ∧ ns.length = vs.length ∧ RepL K A M H vs ds
  | v, .dic t ks ds => ∃ p vs, v = .ref p ∧ ((Rd H p (dicO t ks vs) ∧ (t = true → H p = some (dicO t ks vs))) ∧ ¬ AM A M p) ∧ (ks.length = vs.length ∧ keysOk t ks = true) ∧ RepL K A M H vs ds
  | v, .err c ns ds => ∃ p od vs, v = .ref p ∧ (H p = some (ErO p (.ref (He.ga K c)) od) ∧ ¬ AM A M p) ∧ (∀ q, od = some q → H q = some (.xd ((nmS ns).zip vs)) ∧ ¬ AM A M q) ∧ (od = none → ns = []) ∧ ns.length = vs.length ∧ RepL K A M H vs ds
  | v, .fn f d q σ hs ds => v = .ref f ∧ (H d = some (LamX.CodeO d q) ∧ ¬ AM A M d) ∧ ∃ vs, σ = fillO hs vs ∧ RepL K A M H vs ds
  | v, .any => ∃ a, v = .ref a
def RepL (K : PySem.W.Frag) (A : List Addr) (M : Addr → Prop) (H : Hp) : List V → List D → Prop
  | vs, [] => vs = []
  | vs, d :: ds => ∃ v r, vs = v :: r ∧ RepD K A M H v d ∧ RepL K A M H r ds
end
/-- from A, M, H to A', M', H' -/
structure Go (A : List Addr) (M : Addr → Prop) (H : Hp) (A' : List Addr) (M' : Addr → Prop) (H' : Hp) : Prop where
  ix : ∀ (k : Nat) (a : Addr), A[k]? = some a → A'[k]? = some a
  new : ∀ a, AM A' M' a → AM A M a ∨ H a = none
  pr : ∀ a o, ¬ AM A M a → H a = some o → H' a = some o
section
variable {K : PySem.W.Frag} {A A' A2 : List Addr} {M M' M2 : Addr → Prop} {H H' H2 : Hp} {v w : V} {d e : D} {vs ws : List V} {ds es : List D} {a p : Addr} {o : HO}
theorem Go.rd (g : Go A M H A' M' H') (h : Rd H p o ∧ ¬ AM A M p) : Rd H' p o ∧ ¬ AM A' M' p :=
  ⟨h.1.imp (fun z => g.pr _ _ h.2 z) (fun ⟨w, z⟩ => ⟨w, g.pr _ _ h.2 z⟩), rd_lift g.new h.1 h.2⟩
theorem Go.trans (g : Go A M H A' M' H') (f : Go A' M' H' A2 M2 H2) : Go A M H A2 M2 H2 := by
  refine ⟨fun k a h => f.ix k a (g.ix k a h), fun a h => ?_, fun a o h e => ?_⟩
  · rcases f.new a h with h | h
    · exact g.new a h
    · by_cases z : AM A M a
      · exact .inl z
      · cases e : H a with
        | none => exact .inr rfl
        | some o => rw [g.pr a o z e] at h; cases h
  · refine f.pr a o (fun z => ?_) (g.pr a o h e)
    rcases g.new a z with z | z
    · exact h z
    · rw [e] at z; cases z
mutual
theorem RepD.go (g : Go A M H A' M' H') : ∀ {d : D} {v : V}, RepD K A M H v d → RepD K A' M' H' v d
  | .non, _, h => h
  | .bl _, _, h => h
  | .int _, _, h => h
  | .str _, _, h => h
  | .ty _, _, h => h
  | .tup _, _, ⟨p, vs, e, h, r⟩ => ⟨p, vs, e, h.imp g.rd id, RepL.go g r⟩
  | .lst _, _, ⟨p, vs, e, h, r⟩ => ⟨p, vs, e, ⟨g.pr _ _ h.2 h.1, rd_lift g.new (.inl h.1) h.2⟩, RepL.go g r⟩
  | .wl _, _, ⟨p, vs, e, h, r⟩ => ⟨p, vs, e, h.imp g.rd id, RepL.go g r⟩
  | .ref _, _, ⟨a, e, h⟩ => ⟨a, e, g.ix _ a h⟩
  | .cls _, _, h => h
  | .obj _ _ _, _, ⟨p, x, vs, e, h, l, r⟩ => ⟨p, x, vs, e, ⟨g.pr _ _ h.2 h.1, rd_lift g.new (.inl h.1) h.2⟩, l, RepL.go g r⟩
  | .dic _ _ _, _, ⟨p, vs, e, h, l, r⟩ => ⟨p, vs, e, ⟨⟨(g.rd ⟨h.1.1, h.2⟩).1, fun z => g.pr _ _ h.2 (h.1.2 z)⟩, (g.rd ⟨h.1.1, h.2⟩).2⟩, l, RepL.go g r⟩
  | .err _ _ _, _, ⟨p, od, vs, e, h, hq, l0, l, r⟩ => ⟨p, od, vs, e, ⟨g.pr _ _ h.2 h.1, rd_lift g.new (.inl h.1) h.2⟩, fun q z => ⟨g.pr _ _ (hq q z).2 (hq q z).1, rd_lift g.new (.inl (hq q z).1) (hq q z).2⟩, l0, l, RepL.go g r⟩
  | .fn _ _ _ _ _ _, _, ⟨e, h, vs, s, r⟩ => ⟨e, ⟨g.pr _ _ h.2 h.1, rd_lift g.new (.inl h.1) h.2⟩, vs, s, RepL.go g r⟩
  | .any, _, h => h
theorem RepL.go (g : Go A M H A' M' H') : ∀ {ds : List D} {vs : List V}, RepL K A M H vs ds → RepL K A' M' H' vs ds
  | [], _, h => h
  | _ :: _, _, ⟨v, r, e, h, t⟩ => ⟨v, r, e, RepD.go g h, RepL.go g t⟩
end
mutual
def pureD : D → Bool
  | .tup ds => pureL ds
  | .lst ds => pureL ds
  | .wl ds => pureL ds
  | .ref _ => false
  | .obj _ _ ds => pureL ds
  | .dic _ _ ds => pureL ds
  | .err _ _ ds => pureL ds
  | .fn _ _ _ _ _ ds => pureL ds
  | _ => true
def pureL : List D → Bool
  | [] => true
  | d :: ds => pureD d && pureL ds
end
theorem RepL.len : ∀ {ds : List D} {vs : List V}, RepL K A M H vs ds → vs.length = ds.length
  | [], _, h => by rw [show _ = [] from h]; rfl
  | _ :: _, _, ⟨v, r, e, h, t⟩ => by rw [e, List.length_cons, List.length_cons, RepL.len t]
theorem RepL.app : ∀ {ds es : List D} {vs ws : List V}, RepL K A M H vs ds → RepL K A M H ws es → RepL K A M H (vs ++ ws) (ds ++ es)
  | [], _, _, _, h, h2 => by rw [show _ = [] from h]; exact h2
  | _ :: _, _, _, _, ⟨v, r, e, h, t⟩, h2 => by rw [e]; exact ⟨v, _, rfl, h, RepL.app t h2⟩
theorem RepL.set : ∀ {ds : List D} {vs : List V} (n : Nat), RepL K A M H vs ds → RepD K A M H v d → RepL K A M H (vs.set n v) (ds.set n d)
  | [], _, n, h, _ => by rw [show _ = [] from h]; rfl
  | _ :: _, _, 0, ⟨v, r, e, h, t⟩, h2 => by rw [e]; exact ⟨_, _, rfl, h2, t⟩
  | _ :: _, _, n + 1, ⟨v, r, e, h, t⟩, h2 => by rw [e]; exact ⟨v, _, rfl, h, RepL.set n t h2⟩
inductive Cell where
  | lst (ds : List D) | obj (c : String) (ns : List String) (ds : List D) | dic (t : Bool) (ks ds : List D) | tbl (x q : Str)
abbrev Store := List Cell
def cellDs : Cell → List D
  | .lst ds => ds
  | .obj _ _ ds => ds
  | .dic _ _ ds => ds
  | .tbl _ _ => []
def cellHO (K : PySem.W.Frag) (x : Addr) (vs : List V) : Cell → HO
  | .lst _ => .lst vs
  | .obj c ns _ => .ins (He.ga K c) x ((nmS ns).zip vs)
  | .dic t ks _ => dicO t ks vs
  | .tbl _ _ => .tbl #[]
def cellGood : Cell → Bool
  | .lst _ => true
  | .obj _ ns ds => ns.length == ds.length
  | .dic t ks ds => ks.length == ds.length && keysOk t ks
  | .tbl _ _ => false
/-- the table of a def's code objects -/
def tabA (K : PySem.W.Frag) (x : Str) : Addr := (He.cT K (x, none)).2
def CellRep (K : PySem.W.Frag) (A : List Addr) (M : Addr → Prop) (H : Hp) (a : Addr) (c : Cell) : Prop := (∃ x q, c = .tbl x q ∧ a = tabA K x ∧ LamX.TabS H a q) ∨ ∃ x vs, H a = some (cellHO K x vs c) ∧ RepL K A M H vs (cellDs c) ∧ pureL (cellDs c) = true ∧ cellGood c = true
/-- a cell stays: its own object, and the code objects -/
theorem CellRep.stay {K : PySem.W.Frag} {A A' : List Addr} {M M' : Addr → Prop} {H H' : Hp} {a : Addr} {c : Cell} (g : Go A M H A' M' H') (ea : H' a = H a) (hc : ∀ p q, H p = some (LamX.CodeO p q) → H' p = some (LamX.CodeO p q)) (h : CellRep K A M H a c) : CellRep K A' M' H' a c := by
  rcases h with ⟨y, q, e, ha, ps, h1, h2, h3⟩ | ⟨x, vs, e1, e2, e3⟩
  · exact .inl ⟨y, q, e, ha, ps, by rw [ea]; exact h1, h2, fun pos cv hh => by
      obtain ⟨c, z1, z2⟩ := h3 pos cv hh
      exact ⟨c, z1, hc _ _ z2⟩⟩
  · exact .inr ⟨x, vs, by rw [ea]; exact e1, RepL.go g e2, e3⟩
theorem CellRep.alive {K : PySem.W.Frag} {A : List Addr} {M : Addr → Prop} {H : Hp} {a : Addr} {c : Cell} (h : CellRep K A M H a c) : H a ≠ none := by
  rcases h with ⟨_, q, _, _, ps, h1, _⟩ | ⟨x, vs, e1, _⟩
  · rw [h1]; exact fun z => nomatch z
  · rw [e1]; exact fun z => nomatch z
structure Ok (K : PySem.W.Frag) (A : List Addr) (M : Addr → Prop) (μ : Store) (H : Hp) : Prop where
  nd : A.Nodup
  len : A.length = μ.length
  rep : ∀ (k : Nat) a c, A[k]? = some a → μ[k]? = some c → CellRep K A M H a c
  al : ∀ a, M a → H a ≠ none
  dis : ∀ a ∈ A, ¬ M a
  nc : ∀ a, M a → ∀ q, H a ≠ some (LamX.CodeO a q)
variable {μ μ' μ2 : Store} {k : Nat}
theorem Ok.cell (h : Ok K A M μ H) (ha : a ∈ A) : ∃ (k : Nat) (c : Cell), A[k]? = some a ∧ μ[k]? = some c ∧ CellRep K A M H a c := by
  obtain ⟨k, hk⟩ := List.getElem?_of_mem ha
  have hl := (List.getElem?_eq_some_iff.mp hk).1
  have hm : μ[k]? = some (μ[k]'(h.len ▸ hl)) := List.getElem?_eq_getElem _
  exact ⟨k, _, hk, hm, h.rep k a _ hk hm⟩
theorem Ok.alive (h : Ok K A M μ H) (ha : AM A M a) : H a ≠ none := by
  rcases ha with ha | ha
  · obtain ⟨k, c, _, _, hc⟩ := h.cell ha
    exact hc.alive
  · exact h.al a ha
/-- what comes: the numbers stay, new ones are new, all else stays -/
structure Fut (A : List Addr) (H : Hp) (A' : List Addr) (H' : Hp) : Prop where
  pre : ∃ B, A' = A ++ B
  new : ∀ a ∈ A', a ∈ A ∨ H a = none
  pr : ∀ a o, a ∉ A → H a = some o → H' a = some o
theorem Fut.go (f : Fut A H A' H') : Go A M H A' M H' := by
  refine ⟨fun k a h => ?_, fun a h => ?_, fun a o h e => f.pr a o (fun z => h (.inl z)) e⟩
  · obtain ⟨B, rfl⟩ := f.pre
    rw [List.getElem?_append_left (List.getElem?_eq_some_iff.mp h).1]
    exact h
  · rcases h with h | h
    · exact (f.new a h).imp .inl id
    · exact .inl (.inr h)
theorem Fut.trans (g : Fut A H A' H') (f : Fut A' H' A2 H2) : Fut A H A2 H2 := by
  refine ⟨?_, fun a h => ?_, fun a o h e => ?_⟩
  · obtain ⟨B, rfl⟩ := g.pre
    obtain ⟨C, rfl⟩ := f.pre
    exact ⟨B ++ C, by simp⟩
  · rcases f.new a h with h | h
    · exact g.new a h
    · by_cases z : a ∈ A
      · exact .inl z
      · cases e : H a with
        | none => exact .inr rfl
        | some o => rw [g.pr a o z e] at h; cases h
  · refine f.pr a o (fun z => ?_) (g.pr a o h e)
    rcases g.new a z with z | z
    · exact h z
    · rw [e] at z; cases z
theorem Fut.ex (e : Evl.Ex H H') : Fut A H A H' := ⟨⟨[], by simp⟩, fun a h => .inl h, fun a o _ h => e a o h⟩
theorem Ok.ex (h : Ok K A M μ H) (e : Evl.Ex H H') : Ok K A M μ H' := by
  refine ⟨h.nd, h.len, fun k a c h1 h2 => ?_, fun a m => ?_, h.dis, fun a m q z => ?_⟩
  · have hr := h.rep k a _ h1 h2
    have ea : H' a = H a := by
      cases q : H a with
      | none => exact absurd q hr.alive
      | some o => exact e a o q
    exact hr.stay (Fut.ex e).go ea fun p q z => e p _ z
  · cases q : H a with
    | none => exact absurd q (h.al a m)
    | some o => rw [e a o q]; exact fun z => nomatch z
  · cases y : H a with
    | none => exact absurd y (h.al a m)
    | some o => rw [e a o y] at z; exact h.nc a m q (y.trans z)
theorem Ok.new (h : Ok K A M μ H) (hp : H p = none) : Ok K A M μ (upd H p o) := h.ex (Evl.Ex.new hp)
abbrev En := List (Option D)
def RepO (K : PySem.W.Frag) (A : List Addr) (M : Addr → Prop) (H : Hp) : Option V → Option D → Prop
  | none, none => True
  | some v, some d => RepD K A M H v d
  | _, _ => False
abbrev EnvRep (K : PySem.W.Frag) (A : List Addr) (M : Addr → Prop) (H : Hp) (σ : L2.St) (env : En) : Prop := Paired (RepO K A M H) σ env
variable {σ : L2.St} {env : En}
theorem RepO.go (g : Go A M H A' M' H') {x : Option V} {y : Option D} (h : RepO K A M H x y) : RepO K A' M' H' x y := by
  cases x <;> cases y
  · trivial
  · exact h
  · exact h
  · exact RepD.go g h
theorem EnvRep.go (g : Go A M H A' M' H') (h : EnvRep K A M H σ env) : EnvRep K A' M' H' σ env := Paired_imp (fun _ _ z => z.go g) h
theorem paired_set {α β : Type} {F : α → β → Prop} {x : α} {y : β} (h : F x y) : ∀ {xs : List α} {ys : List β} (i : Nat), Paired F xs ys → Paired F (xs.set i x) (ys.set i y)
  | _, _, _, .nil => .nil
  | _, _, 0, .cons _ b => .cons h b
  | _, _, i + 1, .cons a b => .cons a (paired_set h i b)
theorem EnvRep.set (h : EnvRep K A M H σ env) (i : Nat) (r : RepD K A M H v d) : EnvRep K A M H (σ.set i (some v)) (env.set i (some d)) := paired_set (F := RepO K A M H) (x := some v) (y := some d) r i h
end
end My
namespace My
open PySem PySem.Spec PyProof.Rows L2
inductive Rs (α : Type) where
  | ok (a : α) (μ : Store) | no | rz (c : String) (ns : List String) (xs : List D) (μ : Store)
def Rs.bind {α β : Type} (r : Rs α) (f : α → Store → Rs β) : Rs β := match r with
  | .ok a μ => f a μ
  | .no => .no
  | .rz c ns xs μ => .rz c ns xs μ
@[simp] theorem Rs.bind_k {α β : Type} {a : α} {μ : Store} {f : α → Store → Rs β} : (Rs.ok a μ).bind f = f a μ := rfl
@[simp] theorem Rs.bind_n {α β : Type} {f : α → Store → Rs β} : (Rs.no : Rs α).bind f = .no := rfl
def Rs.of {α : Type} (o : Option α) (μ : Store) : Rs α := match o with
  | some a => .ok a μ
  | none => .no
@[simp] theorem Rs.of_s {α : Type} {a : α} {μ : Store} : Rs.of (some a) μ = .ok a μ := rfl
@[simp] theorem Rs.of_n {α : Type} {μ : Store} : Rs.of (none : Option α) μ = .no := rfl
abbrev Mo (α : Type) := En → Store → Rs α
section
variable {K : PySem.W.Frag} {te ta tb tc : TE} {m ma mb mc : Mo D} {tt tu : TT} {mt mu : Mo Bool} {tas : TA} {mas : Mo (List D)} {cm : Mo (List D)}
def mVar (i : Nat) : Mo D := fun env μ => match env[i]? with
  | some (some d) => .ok d μ
  | _ => .no
@[simp] theorem mVar_eq {i : Nat} {env : En} {μ : Store} {d : D} (h : env[i]? = some (some d)) : mVar i env μ = .ok d μ := by unfold mVar; rw [h]
def mC {α : Type} (d : α) : Mo α := fun _ μ => .ok d μ
@[simp] theorem mC_eq {α : Type} {d : α} {env : En} {μ : Store} : mC d env μ = .ok d μ := rfl
def mNil : Mo (List D) := fun _ μ => .ok [] μ
def mCons (a : Mo D) (r : Mo (List D)) : Mo (List D) := fun env μ => (a env μ).bind fun d μ1 => (r env μ1).bind fun ds μ2 => .ok (d :: ds) μ2
@[simp] theorem mNil_eq {env : En} {μ : Store} : mNil env μ = .ok [] μ := rfl
@[simp] theorem mCons_eq {env : En} {μ μ1 : Store} {d : D} (h : ma env μ = .ok d μ1) : mCons ma mas env μ = (mas env μ1).bind fun ds μ2 => .ok (d :: ds) μ2 := by unfold mCons; rw [h]; rfl
end
end My
namespace My
open PySem PySem.Spec PyProof.Rows L2
def clB (a b : Addr × Addr × Str × L2.St × List Bool) : Bool := decide (a = b)
mutual
def D.beq : D → D → Bool
  | .non, .non => true
  | .bl a, .bl b => a == b
  | .int a, .int b => a == b
  | .str a, .str b => a == b
  | .ty a, .ty b => a == b
  | .tup a, .tup b => D.beqL a b
  | .lst a, .lst b => D.beqL a b
  | .wl a, .wl b => D.beqL a b
  | .ref a, .ref b => a == b
  | .cls a, .cls b => a == b
  | .obj a b c, .obj d e f => (a == d && b == e) && D.beqL c f
  | .dic a b c, .dic d e f => (a == d && D.beqL b e) && D.beqL c f
  | .err a b c, .err d e f => (a == d && b == e) && D.beqL c f
  | .fn a b c d e f, .fn a' b' c' d' e' f' => clB (a, b, c, d, e) (a', b', c', d', e') && D.beqL f f'
  | .any, .any => true
  | _, _ => false
def D.beqL : List D → List D → Bool
  | [], [] => true
  | a :: as, b :: bs => D.beq a b && D.beqL as bs
  | _, _ => false
end
inductive Ro where
  | nx (env : En) (μ : Store) | rt (d : D) (μ : Store) | bk (env : En) (μ : Store) | ct (env : En) (μ : Store) | no | rz (c : String) (ns : List String) (xs : List D) (env : En) (μ : Store)
abbrev MS := En → Store → Ro
/-- an error in the air -/
def RepX (K : PySem.W.Frag) (A : List Addr) (M : Addr → Prop) (H : Hp) (c : String) (ns : List String) (ds : List D) (cls : Value) (od : Option Addr) : Prop :=
  cls = .ref (He.ga K c) ∧ ∃ vs, (∀ q, od = some q → H q = some (.xd ((nmS ns).zip vs)) ∧ ¬ AM A M q) ∧ (od = none → ns = []) ∧ ns.length = vs.length ∧ RepL K A M H vs ds
def PostR (K : PySem.W.Frag) (W : Option WX) (A : List Addr) (M : Addr → Prop) (H : Hp) (c : String) (ns : List String) (ds : List D) (env' : En) (μ' : Store) : Prop := match W with
  | none => False
  | some W => ∀ σ' H' A' cls od, Fut A H A' H' → Ok K A' M μ' H' → EnvRep K A' M H' σ' env' → RepX K A' M H' c ns ds cls od → W cls od σ' H'
theorem PostR.mono {K : PySem.W.Frag} {W : Option WX} {A A' : List Addr} {M : Addr → Prop} {H H' : Hp} {c : String} {ns : List String} {ds : List D} {env' : En} {μ' : Store} (f : Fut A H A' H') (h : PostR K W A M H c ns ds env' μ') : PostR K W A' M H' c ns ds env' μ' := by
  cases W with
  | none => exact h
  | some W => exact fun σ2 H2 A2 cls od f2 => h σ2 H2 A2 cls od (f.trans f2)
def Post (K : PySem.W.Frag) (W : Option WX) (A : List Addr) (M : Addr → Prop) (H : Hp) (E : Ends) : Ro → Prop
  | .nx env' μ' => ∀ σ' H' A', Fut A H A' H' → Ok K A' M μ' H' → EnvRep K A' M H' σ' env' → E.nx σ' H'
  | .rt d μ' => ∀ v H' A', Fut A H A' H' → Ok K A' M μ' H' → RepD K A' M H' v d → E.rt v H'
  | .bk env' μ' => ∀ σ' H' A', Fut A H A' H' → Ok K A' M μ' H' → EnvRep K A' M H' σ' env' → E.bk σ' H'
  | .ct env' μ' => ∀ σ' H' A', Fut A H A' H' → Ok K A' M μ' H' → EnvRep K A' M H' σ' env' → E.ct σ' H'
  | .no => False
  | .rz c ns ds env' μ' => PostR K W A M H c ns ds env' μ'
section
variable {K : PySem.W.Frag} {W : Option WX} {te ta tb tc : TE} {m ma mb mc : Mo D} {tt tu : TT} {mt mu : Mo Bool} {tas : TA} {mas : Mo (List D)} {cm : Mo (List D)} {t1 t2 t3 : TS} {s1 s2 s3 : MS} {A A' : List Addr} {M : Addr → Prop} {H H' : Hp} {E : Ends} {r : Ro}
theorem Post.mono (f : Fut A H A' H') (h : Post K W A M H E r) : Post K W A' M H' E r := by
  cases r with
  | nx env μ => exact fun σ2 H2 A2 f2 => h σ2 H2 A2 (f.trans f2)
  | rt d μ => exact fun v H2 A2 f2 => h v H2 A2 (f.trans f2)
  | bk env μ => exact fun σ2 H2 A2 f2 => h σ2 H2 A2 (f.trans f2)
  | ct env μ => exact fun σ2 H2 A2 f2 => h σ2 H2 A2 (f.trans f2)
  | no => exact h
  | rz c ns ds env μ => exact PostR.mono f h
def sNext : MS := fun env μ => .nx env μ
@[simp] theorem sNext_eq {env : En} {μ : Store} : sNext env μ = .nx env μ := rfl
abbrev Tg := D → En → Option En
abbrev Gd := Option (Nat × List D)
def gdOk : Gd → Store → Bool
  | none, _ => true
  | some (k, ds), μ => match μ[k]? with
    | some (.lst es) => D.beqL es ds
    | _ => false
end
end My
namespace My
open PySem PySem.Spec PyProof.Rows L2
section
variable {K : PySem.W.Frag} {A : List Addr} {M : Addr → Prop} {μ : Store} {H : Hp} {v w : V} {d : D} {xs ds : List D} {k : Nat}
theorem RepL.rep {vs : List V} {xs : List D} (r : RepL K A M H vs xs) : ∀ n : Nat, RepL K A M H (List.replicate n vs).flatten (List.replicate n xs).flatten
  | 0 => rfl
  | n + 1 => by
    rw [List.replicate_succ, List.replicate_succ, List.flatten_cons, List.flatten_cons]
    exact r.app (RepL.rep r n)
end
end My
namespace My
open PySem PySem.Spec PyProof.Rows L2
section
variable {K : PySem.W.Frag} {A : List Addr} {M : Addr → Prop} {μ : Store} {H : Hp} {v w : V} {d : D} {xs ds : List D} {k : Nat} {te ta tb : TE} {m ma mb : Mo D} {tas : TA} {mas : Mo (List D)}
def blsOf : List D → Option (List Bool)
  | [] => some []
  | .bl b :: r => (blsOf r).map (b :: ·)
  | _ => none
def intsOf : List D → Option (List Int)
  | [] => some []
  | .int b :: r => (intsOf r).map (b :: ·)
  | _ => none
def strsOf : List D → Option (List Codes)
  | [] => some []
  | .str b :: r => (strsOf r).map (b :: ·)
  | _ => none
@[simp] theorem blsOf_map : ∀ (bs : List Bool), blsOf (bs.map D.bl) = some bs
  | [] => rfl
  | b :: bs => by rw [List.map_cons, blsOf, blsOf_map]; rfl
@[simp] theorem intsOf_map : ∀ (bs : List Int), intsOf (bs.map D.int) = some bs
  | [] => rfl
  | b :: bs => by rw [List.map_cons, intsOf, intsOf_map]; rfl
@[simp] theorem strsOf_map : ∀ (bs : List Codes), strsOf (bs.map D.str) = some bs
  | [] => rfl
  | b :: bs => by rw [List.map_cons, strsOf, strsOf_map]; rfl
def knownT : List String := ["NoneType", "bool", "int", "str", "tuple", "list", "dict"]
def knownC : List String := ["bool", "int", "str", "tuple", "list", "dict"]
end
end My
namespace My
open PySem PySem.Spec PyProof.Rows L2
def modSp (K : PySem.W.Frag) (m : List D → Store → Rs D) : Sp := fun vs H Q _ => ∃ (A : List Addr) (M : Addr → Prop) (μ : Store) (ds : List D) (d : D) (μ' : Store), Ok K A M μ H ∧ RepL K A M H vs ds ∧ m ds μ = .ok d μ' ∧
  ∀ v H' A', Fut A H A' H' → Ok K A' M μ' H' → RepD K A' M H' v d → Q v H'
end My
namespace My
open PySem PySem.Spec PyProof.Rows L2
section
variable {K : PySem.W.Frag} {te ta tb tc : TE} {m ma mb mc : Mo D} {tt tu : TT} {mt mu : Mo Bool} {tas : TA} {mas : Mo (List D)}
@[simp] theorem gdOk_none {μ : Store} : gdOk none μ = true := rfl
end
end My
namespace My
open PySem PySem.Spec PyProof.Rows L2
abbrev Ky := List Codes
structure IsKy (h : Heap) (v : Value) (k : Ky) : Prop where
  ex : ∃ a o us n, v = .ref a ∧ h.get? a = some o ∧ o.cls = .type "tuple" ∧ o.data = .seq us n ∧ Vals (k.map sv) us.toList
  ne : k ≠ []
theorem IsKy.keeps {h h' : Heap} {v : Value} {k : Ky} (x : IsKy h v k) (kp : ∀ b o, h.get? b = some o → o.cls = .type "tuple" → h'.get? b = some o) : IsKy h' v k := by
  obtain ⟨a, o, us, n, e, ho, hc, hd, r⟩ := x.ex
  exact ⟨⟨a, o, us, n, e, kp _ _ ho hc, hc, hd, r⟩, x.ne⟩
end My
namespace My
open PySem PySem.Spec PyProof.Rows L2
structure CTab where
  names : List String
  sub : List (String × List String)
  fields : List String
def isSub (ct : CTab) (c c' : String) : Bool := match ct.sub.lookup c with
  | some l => l.contains c'
  | none => false
def ctB (K : PySem.W.Frag) (ct : CTab) : Bool :=
  (ct.names.all fun c => (He.Fa.cls c).ok K && (ct.fields.all (fun f => (He.Fa.noat c f).ok K) &&
    (decide (PySem.W.findIn K (.ref (He.ga K c)) "__class__" = some (some (.builtin "object.__class__"))) && (decide (PySem.W.mroIn K (He.ga K c) (.type "object") = some true) &&
     (decide (PySem.W.findIn K (.ref (He.ga K c)) "__ne__" = some (some (.builtin "object.__ne__"))) && (decide (PySem.W.subIn K (.ref (He.ga K c)) (.type "object") = some true) &&
     (ct.names.all (fun c' => decide (PySem.W.kitOne K (.ref (He.ga K c)) (.ref (He.ga K c')) = some (isSub ct c c')) && (!(c == c' || !isSub ct c' c) || PySem.W.notFirst K (He.ga K c) (.ref (He.ga K c')))) &&
     (knownC.all (fun t => decide (PySem.W.kitOne K (.ref (He.ga K c)) (.type t) = some false)) && knownT.all (fun t => decide (PySem.W.kitOne K (.type t) (.ref (He.ga K c)) = some false)))))))))) &&
  (decide (PySem.W.specialIn K (.builtin "object.__class__") "__get__" = some (some (.builtin "getset_descriptor.__get__"))) && decide (PySem.W.takesIn K (.builtin "object.__class__") = some true))
end My
namespace My
open PySem PySem.Spec PyProof.Rows L2
end My
namespace My
open PySem PySem.Spec PyProof.Rows L2
end My
namespace My
open PySem PySem.Spec PyProof.Rows L2
/-- the def of a classmethod -/
def gc (K : PySem.W.Frag) (c m : Str) : Addr := He5.wf K (He.ga K c) "classmethod" m
def cmB (K : PySem.W.Frag) (c m : Str) : Bool := PySem.W.readsIn K (He.ga K c) (.type "type") && (He5.wrapB K (He.ga K c) "classmethod" "classmethod.__get__" m && PySem.W.fnIn K (gc K c m))
end My
namespace My
open PySem PySem.Spec PyProof.Rows L2
def Rs.nr {α : Type} : Rs α → Rs α
  | .ok a μ => .ok a μ
  | _ => .no
@[simp] theorem Rs.nr_k {α : Type} {a : α} {μ : Store} : (Rs.ok a μ).nr = .ok a μ := rfl
def modSpX (K : PySem.W.Frag) (m : List D → Store → Rs D) : Sp := fun vs H Q E => modSp K m vs H Q E ∨ ∃ (A : List Addr) (M : Addr → Prop) (μ : Store) (ds : List D) (c : String) (ns : List String) (xs : List D) (μ' : Store), Ok K A M μ H ∧ RepL K A M H vs ds ∧ m ds μ = .rz c ns xs μ' ∧
  ∀ H' A' cls od, Fut A H A' H' → Ok K A' M μ' H' → RepX K A' M H' c ns xs cls od → E cls od H'
end My
namespace My
open PySem PySem.Spec PyProof.Rows L2
section
variable {P : Program} {w : World} {K : PySem.W.Frag} {mg : Str → Option Value} {base : Heap}
theorem modSpX.len {f : List D → Store → Rs D} {n : Nat} (hf : ∀ ds μ, ds.length ≠ n → f ds μ = .no) {vs : List V} {H : Hp} {Q : VK} {E : XK} (h : modSpX K f vs H Q E) : vs.length = n := by
  rcases h with ⟨A, M, μ, ds, d, μ', ok, r, e, q⟩ | ⟨A, M, μ, ds, c, ns, xs, μ', ok, r, e, q⟩
  · rw [r.len]
    by_cases hn : ds.length = n
    · exact hn
    · rw [hf ds μ hn] at e; cases e
  · rw [r.len]
    by_cases hn : ds.length = n
    · exact hn
    · rw [hf ds μ hn] at e; cases e
end
end My
namespace My
open PySem PySem.Spec PyProof.Rows L2
def errKB (K : PySem.W.Frag) (C : Addr) (B newId initId : String) (tl : List Value) (fI : Addr) (fs : List Str) : Bool :=
  (PySem.W.excInitIn K C tl newId && (PySem.W.excOver K C tl && (PySem.W.hasDictIn K C && (decide (PySem.W.findIn K (.ref C) "__init__" = some (some (.ref fI))) && (PySem.W.isFn K (.ref fI) && (decide (PySem.W.ks_superIn K C C "__init__" = some (some (.builtin initId))) &&
  (decide (PySem.W.subIn K (.ref C) (.type B) = some true) && (decide (PySem.W.subIn K (.ref C) (.type "BaseException") = some true) && (decide (PySem.W.typeIn K (.ref C) = some (.type "type")) && PySem.W.keepIn K (.ref C)))))))))) &&
  (decide (PySem.W.findIn K (.ref C) "__setattr__" = some (some (.builtin "object.__setattr__"))) && (decide (PySem.W.findIn K (.ref C) "__getattribute__" = some (some (.builtin "BaseException.__getattribute__"))) && (decide (PySem.W.findIn K (.ref C) "__getattr__" = some none) &&
  (fs.all (fun f => decide (PySem.W.takerIn K C f = some none) && decide (PySem.W.findIn K (.ref C) f = some none)) && (decide (PySem.W.nsIn K cStatics "thirdparty.any" = some none) && decide (PySem.W.mroIn K C (.ref C) = some true))))))
def ecB (K : PySem.W.Frag) (ec : List (String × List String)) : Bool := ec.all fun p => p.2.all fun c => decide (PySem.W.exmOne K (.ref (He.ga K p.1)) (.ref (He.ga K c)) = some true)
def erB (K : PySem.W.Frag) (ec : List (String × List String)) (fs : List String) : Bool := ec.all fun p => decide (PySem.W.findIn K (.ref (He.ga K p.1)) "__getattribute__" = some (some (.builtin "BaseException.__getattribute__"))) && (decide (PySem.W.findIn K (.ref (He.ga K p.1)) "__getattr__" = some none) &&
  (decide (PySem.W.subIn K (.ref (He.ga K p.1)) (.type "BaseException") = some true) && (PySem.W.hasDictIn K (He.ga K p.1) && fs.all fun f => decide (PySem.W.findIn K (.ref (He.ga K p.1)) (f : Str) = some none))))
end My
namespace My
open PySem PySem.Spec PyProof.Rows L2 PySem.W PySem.SeqAt
open AutoSeq1 (wpAny_loadPart')
open MeetsSeq MeetsSeq2 MeetsSeq3 SeqRoads2
end My
namespace My
open PySem PySem.Spec PyProof.Rows L2
end My
namespace My
open PySem PySem.Spec PyProof.Rows L2 PySem.W PySem.HandSPX PySem.Calls PySem.Builtin PySem.Builtin.ObjectAttr
end My
namespace My
open PySem PySem.Spec PyProof.Rows L2 PySem.W PySem.Calls
end My
namespace My
open PySem PySem.Spec PyProof.Rows L2
end My
namespace My
open PySem PySem.Spec PyProof.Rows L2
end My
namespace My
open PySem PySem.Spec PyProof.Rows L2
end My
namespace My
open PySem PySem.Spec PyProof.Rows L2
end My
namespace My
open PySem PySem.Spec PyProof.Rows L2
end My
namespace My
open PySem PySem.Spec PyProof.Rows L2
end My
namespace My
open PySem PySem.Spec PyProof.Rows L2
section
variable {P : Program} {w : World} {K : PySem.W.Frag} {mg : Str → Option Value} {base : Heap} {CX : CXT}
theorem modSp.len {f : List D → Store → Rs D} {n : Nat} (hf : ∀ ds μ, ds.length ≠ n → f ds μ = .no) {vs : List V} {H : Hp} {Q : VK} {E : XK} (h : modSp K f vs H Q E) : vs.length = n := modSpX.len hf (.inl h)
end
end My
namespace My
open PySem PySem.Spec PyProof.Rows L2
end My
namespace My
open PySem PySem.Spec PyProof.Rows L2
end My
namespace My
open PySem PySem.Spec PyProof.Rows L2 PySem.W PySem.Calls
end My
namespace My
open PySem PySem.Spec PyProof.Rows L2
end My
namespace My
open PySem PySem.Spec PyProof.Rows L2
end My
namespace My
open PySem PySem.Spec PyProof.Rows L2
end My
namespace My
open PySem PySem.Spec PyProof.Rows L2
end My
namespace My
open PySem PySem.Spec PyProof.Rows L2
end My
namespace My
open PySem PySem.Spec PyProof.Rows L2
end My
namespace My
open PySem PySem.Spec PyProof.Rows L2
end My
namespace My
open PySem PySem.Spec PyProof.Rows L2
section
variable {K : PySem.W.Frag} {A : List Addr} {M : Addr → Prop} {H H' : Hp} {p : Addr} {kvs : List (Key × V)}
/-- the same heap, but that the dict at p may be locked or not -/
structure LkS (A : List Addr) (M : Addr → Prop) (p : Addr) (kvs : List (Key × V)) (H H' : Hp) : Prop where
  r1 : Rd H p (.dK kvs)
  r2 : Rd H' p (.dK kvs)
  no : ¬ AM A M p
  same : ∀ a, a ≠ p → H' a = H a
theorem LkS.ne (l : LkS A M p kvs H H') {a : Addr} {o : HO} (e : H a = some o) (h1 : ∀ k, o ≠ .dK k) (h2 : ∀ z k, o ≠ .frz z k) : H' a = some o := by
  by_cases z : a = p
  · subst z
    rcases l.r1 with q | ⟨w, q⟩
    · rw [q] at e; exact absurd (Option.some.inj e).symm (h1 _)
    · rw [q] at e; exact absurd (Option.some.inj e).symm (h2 _ _)
  · rw [l.same a z]; exact e
theorem LkS.rd (l : LkS A M p kvs H H') {a : Addr} {o : HO} (e : Rd H a o) (h2 : ∀ z k, o ≠ .frz z k) : Rd H' a o := by
  by_cases z : a = p
  · subst z
    have : o = .dK kvs := by
      rcases l.r1 with q | ⟨w, q⟩ <;> rcases e with e | ⟨w2, e⟩
      · rw [q] at e; exact (Option.some.inj e).symm
      · rw [q] at e; cases e
      · rw [q] at e; exact absurd (Option.some.inj e).symm (h2 _ _)
      · rw [q] at e; cases e; rfl
    rw [this]; exact l.r2
  · rcases e with e | ⟨w, e⟩
    · exact .inl (by rw [l.same a z]; exact e)
    · exact .inr ⟨w, by rw [l.same a z]; exact e⟩
end
end My
namespace My
open PySem PySem.Spec PyProof.Rows L2
end My
namespace My
open PySem PySem.Spec PyProof.Rows L2 PySem.W PySem.Calls NdefX
end My
namespace My
open PySem PySem.Spec PyProof.Rows L2
end My
namespace My
open PySem PySem.Spec PyProof.Rows L2
end My
namespace My
open PySem PySem.Spec PyProof.Rows L2
end My
namespace My
open PySem PySem.Spec PyProof.Rows L2
end My
namespace My
open PySem PySem.Spec PyProof.Rows L2
end My
namespace My
open PySem PySem.Spec PyProof.Rows L2
end My
namespace My
open PySem PySem.Spec PyProof.Rows L2
def DctV (K : PySem.W.Frag) (w : World) (a : Addr) (ks : List Codes) (vs : List V) : Prop := ∃ es n, KDict K w a es n ∧ es.toList.map He.keyOf = He.keysIn w.params (ks.map SX.S) ∧ Vals vs (es.toList.map (·.val)) ∧ ks.Nodup ∧ ks.length ≤ sizeLine
end My
namespace My
open PySem PySem.Spec PyProof.Rows L2
abbrev MDs := List (String × List Codes × List D)
end My
namespace My
open PySem PySem.Spec PyProof.Rows L2
section
variable {K : PySem.W.Frag} {w : World} {dt : MDs} {A : List Addr} {M : Addr → Prop} {μ : Store} {H : Hp} {te ta : TE} {m : Mo D} {tas : TA} {mas : Mo (List D)}
theorem DctV.len {a : Addr} {ks : List Codes} {vs : List V} (D : DctV K w a ks vs) : ks.length = vs.length := by
  obtain ⟨es, n, k, e, rv, hn, hl⟩ := D
  have h1 := congrArg List.length e
  unfold He.keysIn at h1
  have h2 := rv.length
  simp at h1 h2
  omega
end
end My
namespace My
open PySem PySem.Spec PyProof.Rows L2
end My
namespace My
open PySem PySem.Spec PyProof.Rows L2
end My
namespace My
open PySem PySem.Spec PyProof.Rows L2
end My
namespace My
open PySem PySem.Spec PyProof.Rows L2
end My
namespace My
open PySem PySem.Spec PyProof.Rows L2
end My
namespace My
open PySem PySem.Spec PyProof.Rows L2
end My
namespace My
open PySem PySem.Spec PyProof.Rows L2
open PySem.Calls
end My
namespace My
open PySem PySem.Spec PyProof.Rows L2
open PySem.Calls
end My
namespace My
open PySem PySem.Spec PyProof.Rows L2
end My
namespace My
open PySem PySem.Spec PyProof.Rows L2
end My
namespace My
open PySem PySem.Spec PyProof.Rows L2
end My
namespace My
open PySem PySem.Spec PyProof.Rows L2
end My
namespace My
open PySem PySem.Spec PyProof.Rows L2
end My
namespace My
open PySem PySem.Spec PyProof.Rows L2
section
variable {K : PySem.W.Frag} {W : Option WX} {A A' : List Addr} {M : Addr → Prop} {H H' : Hp} {t : TS} {s : MS} {ta tb td te tx : TE} {ma mb md my mx : Mo D} {tas : TA} {mas : Mo (List D)}
/-- what the head tells of an own __getitem__ -/
def itmB (K : PySem.W.Frag) (c : String) : Bool := decide (PySem.W.findIn K (.ref (He.ga K c)) "__getitem__" = some (some (.ref (He.ma K (He.ga K c) "__getitem__")))) && (PySem.W.fnIn K (He.ma K (He.ga K c) "__getitem__") && PySem.W.isFn K (.ref (He.ma K (He.ga K c) "__getitem__")))
end
end My
namespace My
open PySem PySem.Spec PyProof.Rows L2
end My
namespace My
open PySem PySem.Spec PyProof.Rows L2
end My
namespace My
open PySem PySem.Spec PyProof.Rows L2
end My
namespace L2
open PySem PySem.Spec PyProof.Rows My
end L2
namespace My
open PySem PySem.Spec PyProof.Rows L2
end My
namespace My
open PySem PySem.Spec PyProof.Rows L2
end My
namespace My
open PySem PySem.Spec PyProof.Rows L2
end My
namespace My
open PySem PySem.Spec PyProof.Rows L2
end My
namespace My
open PySem PySem.Spec PyProof.Rows L2
open PySem.Calls
end My
namespace My
open PySem PySem.Spec PyProof.Rows L2
end My
namespace My
open PySem PySem.Spec PyProof.Rows L2
/-- what is wished of an error, a dict being locked -/
def WL (X : Cx) (W : WX) : WX := fun cls d σ H => W cls d σ H ∨ ∃ (p : Addr) (od : Obj) (u : HO), H p = some (.frz od u) ∧ (∀ o' u', X.H_0 p ≠ some (.frz o' u')) ∧ W cls d σ (upd H p u)
section
variable {K : PySem.W.Frag} {W : WX} {X : Cx} {A A' : List Addr} {M : Addr → Prop} {H H' : Hp} {p : Addr} {t1 : TS} {s1 : MS} {g : TG} {js : List Nat} {tg : Tg} {td : TE} {md : Mo D} {E : Ends} {r : Ro}
theorem Post.wl (h : Post K (some W) A M H E r) : Post K (some (WL X W)) A M H E r := by
  cases r with
  | rz c ns ds env μ => exact fun σ' H' A' cls od f ok en rx => .inl (h σ' H' A' cls od f ok en rx)
  | _ => exact h
end
end My
namespace My
open PySem PySem.Spec PyProof.Rows L2
def topS (i : Nat) : Stmt := PySem.Challenge.pw_dirservice_k19_whole_entries_as_plain_di.main.body.getD i (.Pass ⟨0, 0, 0, 0⟩)
def clsS (i j : Nat) : Stmt := match topS i with
  | .ClassDef (body := b) .. => b.getD j (.Pass ⟨0, 0, 0, 0⟩)
  | s => s
abbrev s_is_word : Stmt := topS 13
abbrev s_is_value : Stmt := topS 14
abbrev s_plain_text : Stmt := topS 15
abbrev s_is_plain : Stmt := topS 16
abbrev s_escaped : Stmt := topS 17
abbrev s_value_at : Stmt := topS 18
abbrev s_read_name : Stmt := topS 19
abbrev s_leaf_text : Stmt := topS 20
abbrev s_normal_leaf : Stmt := topS 21
abbrev s_order_of : Stmt := topS 22
abbrev s_need_name : Stmt := topS 27
abbrev s_need_table : Stmt := topS 29
abbrev s_l_cell : Stmt := topS 32
abbrev s_l_draw : Stmt := topS 33
abbrev s_l_of : Stmt := topS 34
abbrev s_l_words : Stmt := topS 35
abbrev s_l_values : Stmt := topS 36
abbrev s_l_text : Stmt := topS 37
abbrev s_l_is_model : Stmt := topS 38
abbrev s_l_put : Stmt := topS 39
abbrev s_l_changed : Stmt := topS 40
abbrev s_l_refused : Stmt := topS 41
abbrev s_law : Stmt := topS 42
abbrev s_Name___init : Stmt := clsS 25 0
abbrev s_Name_text : Stmt := clsS 25 2
abbrev s_Name___eq : Stmt := clsS 25 12
abbrev s_Entry___init : Stmt := clsS 30 0
abbrev s_Entry_of : Stmt := clsS 30 1
abbrev s_Entry_name : Stmt := clsS 30 2
abbrev s_Entry_words : Stmt := clsS 30 3
abbrev s_Entry___getitem : Stmt := clsS 30 4
abbrev s_Entry___eq : Stmt := clsS 30 7
abbrev s_Entry_with_values : Stmt := clsS 30 8
abbrev s_Entry_renamed : Stmt := clsS 30 9
def ctab : CTab := ⟨["Name", "Entry"], [("Name", ["Name"]), ("Entry", ["Entry"])], ["own_text", "own_leaves", "own_order", "own_name", "own_table", "own_key"]⟩
def fileS : Str := "/claim/cut.py"
def ecs : List (String × List String) := [("BadName", ["BadName"]), ("BadEntry", ["BadEntry"])]
def efs : List String := ["given"]
abbrev s_BadName___init : Stmt := clsS 3 0
abbrev s_BadEntry___init : Stmt := clsS 4 0
end My
namespace My
open PySem PySem.Spec PyProof.Rows L2
def hd0 : DefP := ⟨fun K => He.ga K "is_word", "is_word", "is_word", defArgs s_is_word, defBody s_is_word, defScope s_is_word, [], [], none⟩
def hd1 : DefP := ⟨fun K => He.ga K "is_value", "is_value", "is_value", defArgs s_is_value, defBody s_is_value, defScope s_is_value, [], [], none⟩
def hd2 : DefP := ⟨fun K => He.ga K "plain_text", "plain_text", "plain_text", defArgs s_plain_text, defBody s_plain_text, defScope s_plain_text, [], [], none⟩
def hd3 : DefP := ⟨fun K => He.ga K "is_plain", "is_plain", "is_plain", defArgs s_is_plain, defBody s_is_plain, defScope s_is_plain, [], [], none⟩
def hd4 : DefP := ⟨fun K => He.ga K "escaped", "escaped", "escaped", defArgs s_escaped, defBody s_escaped, defScope s_escaped, [], [], none⟩
def hd5 : DefP := ⟨fun K => He.ga K "value_at", "value_at", "value_at", defArgs s_value_at, defBody s_value_at, defScope s_value_at, [], [], none⟩
def hd6 : DefP := ⟨fun K => He.ga K "read_name", "read_name", "read_name", defArgs s_read_name, defBody s_read_name, defScope s_read_name, [], [], none⟩
def hd7 : DefP := ⟨fun K => He.ga K "leaf_text", "leaf_text", "leaf_text", defArgs s_leaf_text, defBody s_leaf_text, defScope s_leaf_text, [], [], none⟩
def hd8 : DefP := ⟨fun K => He.ga K "normal_leaf", "normal_leaf", "normal_leaf", defArgs s_normal_leaf, defBody s_normal_leaf, defScope s_normal_leaf, [], [], none⟩
def hd9 : DefP := ⟨fun K => He.ga K "order_of", "order_of", "order_of", defArgs s_order_of, defBody s_order_of, defScope s_order_of, [], [], none⟩
def hd10 : DefP := ⟨fun K => He.ga K "need_name", "need_name", "need_name", defArgs s_need_name, defBody s_need_name, defScope s_need_name, [], [], none⟩
def hd11 : DefP := ⟨fun K => He.ga K "need_table", "need_table", "need_table", defArgs s_need_table, defBody s_need_table, defScope s_need_table, [], [], none⟩
def hd12 : DefP := ⟨fun K => He.ga K "_law_cell", "_law_cell", "_law_cell", defArgs s_l_cell, defBody s_l_cell, defScope s_l_cell, [], [], none⟩
def hd13 : DefP := ⟨fun K => He.ga K "_law_draw", "_law_draw", "_law_draw", defArgs s_l_draw, defBody s_l_draw, defScope s_l_draw, [], [], none⟩
def hd14 : DefP := ⟨fun K => He.ga K "_law_of", "_law_of", "_law_of", defArgs s_l_of, defBody s_l_of, defScope s_l_of, [], [], none⟩
def hd15 : DefP := ⟨fun K => He.ga K "_law_words", "_law_words", "_law_words", defArgs s_l_words, defBody s_l_words, defScope s_l_words, [], [], none⟩
def hd16 : DefP := ⟨fun K => He.ga K "_law_values", "_law_values", "_law_values", defArgs s_l_values, defBody s_l_values, defScope s_l_values, [], [], none⟩
def hd17 : DefP := ⟨fun K => He.ga K "_law_text", "_law_text", "_law_text", defArgs s_l_text, defBody s_l_text, defScope s_l_text, [], [], none⟩
def hd18 : DefP := ⟨fun K => He.ga K "_law_is_model", "_law_is_model", "_law_is_model", defArgs s_l_is_model, defBody s_l_is_model, defScope s_l_is_model, [], [], none⟩
def hd19 : DefP := ⟨fun K => He.ga K "_law_put", "_law_put", "_law_put", defArgs s_l_put, defBody s_l_put, defScope s_l_put, [], [], none⟩
def hd20 : DefP := ⟨fun K => He.ga K "_law_changed", "_law_changed", "_law_changed", defArgs s_l_changed, defBody s_l_changed, defScope s_l_changed, [], [], none⟩
def hd21 : DefP := ⟨fun K => He.ga K "_law_refused", "_law_refused", "_law_refused", defArgs s_l_refused, defBody s_l_refused, defScope s_l_refused, [], [], none⟩
def hd22 : DefP := ⟨fun K => He.ga K "law", "law", "law", defArgs s_law, defBody s_law, defScope s_law, [], [], none⟩
def hd23 : DefP := ⟨fun K => (He.ma K (He.ga K "Name") "__init__"), "__init__", "Name.__init__", defArgs s_Name___init, defBody s_Name___init, defScope s_Name___init, [He.Dv.str ""], [], none⟩
def hd24 : DefP := ⟨fun K => (gp K "Name" "text"), "text", "Name.text", defArgs s_Name_text, defBody s_Name_text, defScope s_Name_text, [], [], none⟩
def hd25 : DefP := ⟨fun K => (He.ma K (He.ga K "Name") "__eq__"), "__eq__", "Name.__eq__", defArgs s_Name___eq, defBody s_Name___eq, defScope s_Name___eq, [], [], none⟩
def hd26 : DefP := ⟨fun K => (He.ma K (He.ga K "Entry") "__init__"), "__init__", "Entry.__init__", defArgs s_Entry___init, defBody s_Entry___init, defScope s_Entry___init, [], [], none⟩
def hd27 : DefP := ⟨fun K => (gc K "Entry" "of"), "of", "Entry.of", defArgs s_Entry_of, defBody s_Entry_of, defScope s_Entry_of, [], [], none⟩
def hd28 : DefP := ⟨fun K => (gp K "Entry" "name"), "name", "Entry.name", defArgs s_Entry_name, defBody s_Entry_name, defScope s_Entry_name, [], [], none⟩
def hd29 : DefP := ⟨fun K => (gp K "Entry" "words"), "words", "Entry.words", defArgs s_Entry_words, defBody s_Entry_words, defScope s_Entry_words, [], [], none⟩
def hd30 : DefP := ⟨fun K => (He.ma K (He.ga K "Entry") "__getitem__"), "__getitem__", "Entry.__getitem__", defArgs s_Entry___getitem, defBody s_Entry___getitem, defScope s_Entry___getitem, [], [], none⟩
def hd31 : DefP := ⟨fun K => (He.ma K (He.ga K "Entry") "__eq__"), "__eq__", "Entry.__eq__", defArgs s_Entry___eq, defBody s_Entry___eq, defScope s_Entry___eq, [], [], none⟩
def hd32 : DefP := ⟨fun K => (He.ma K (He.ga K "Entry") "with_values"), "with_values", "Entry.with_values", defArgs s_Entry_with_values, defBody s_Entry_with_values, defScope s_Entry_with_values, [], [], none⟩
def hd33 : DefP := ⟨fun K => (He.ma K (He.ga K "Entry") "renamed"), "renamed", "Entry.renamed", defArgs s_Entry_renamed, defBody s_Entry_renamed, defScope s_Entry_renamed, [], [], none⟩
def hd34 : DefP := ⟨fun K => He.ma K (He.ga K "BadName") "__init__", "__init__", "BadName.__init__", defArgs s_BadName___init, defBody s_BadName___init, defScope s_BadName___init, [], [], some (fun K => He.ga K "BadName", fileS)⟩
def hd35 : DefP := ⟨fun K => He.ma K (He.ga K "BadEntry") "__init__", "__init__", "BadEntry.__init__", defArgs s_BadEntry___init, defBody s_BadEntry___init, defScope s_BadEntry___init, [], [], some (fun K => He.ga K "BadEntry", fileS)⟩
def hfn0 : List DefP := [hd0, hd1, hd2, hd3, hd4, hd5, hd6, hd7, hd8, hd9, hd10, hd11, hd12, hd13, hd14, hd15, hd16, hd17, hd18, hd19, hd20, hd21, hd22, hd23, hd24, hd25, hd26, hd27, hd28, hd29]
def hfn1 : List DefP := [hd30, hd31, hd32, hd33, hd34, hd35]
def hfn : List DefP := hfn0 ++ hfn1
def hloose0 : List Str := ["_wall", "Invalid", "BadName", "BadEntry", "LETTERS", "MAX_WORD", "MAX_TEXT", "MAX_PAIRS", "MAX_LEAVES", "BACKSLASH", "ESCAPED", "is_word", "is_value", "plain_text", "is_plain", "escaped", "value_at", "read_name", "leaf_text", "normal_leaf", "order_of", "is_leaf_text", "Name", "need_leaf", "need_name", "need_table", "Entry", "_law_cell", "_law_draw", "_law_of"]
def hloose1 : List Str := ["_law_words", "_law_values", "_law_text", "_law_is_model", "_law_put", "_law_changed", "_law_refused"]
def hloose : List Str := hloose0 ++ hloose1
def hbs0 : List (PySem.W.Frag → Bool) := [fun K => ctB K ctab, fun K => (He.Fa.glo "BadEntry").ok K, fun K => (He.Fa.glo "BadName").ok K, fun K => (He.Fa.glo "Entry").ok K, fun K => (He.Fa.glo "Name").ok K, fun K => (He.Fa.mkr "Entry").ok K, fun K => (He.Fa.mkr "Name").ok K, fun K => propsB K ["Entry"] "name" (gp K "Entry" "name"), fun K => propsB K ["Entry"] "words" (gp K "Entry" "words"), fun K => propsB K ["Name"] "text" (gp K "Name" "text"), fun K => itmB K "Entry", fun K => errKB K (He.ga K "BadName") "ValueError" "ValueError.__new__" "ValueError.__init__" [.type "ValueError", .type "Exception", .type "BaseException", .type "object"] (He.ma K (He.ga K "BadName") "__init__") (nmS ["given"]), fun K => errKB K (He.ga K "BadEntry") "ValueError" "ValueError.__new__" "ValueError.__init__" [.type "ValueError", .type "Exception", .type "BaseException", .type "object"] (He.ma K (He.ga K "BadEntry") "__init__") (nmS ["given"]), fun K => ecB K ecs, fun K => erB K ecs efs, fun K => cmB K "Entry" "of", fun K => methB K ["Entry"] "__eq__" (He.ma K (He.ga K "Entry") "__eq__"), fun K => methB K ["Entry"] "renamed" (He.ma K (He.ga K "Entry") "renamed"), fun K => methB K ["Entry"] "with_values" (He.ma K (He.ga K "Entry") "with_values"), fun K => methB K ["Name"] "__eq__" (He.ma K (He.ga K "Name") "__eq__"), fun K => (He.Fa.glo "is_word").ok K, fun K => (He.Fa.glo "is_value").ok K, fun K => (He.Fa.glo "plain_text").ok K, fun K => (He.Fa.glo "is_plain").ok K, fun K => (He.Fa.glo "escaped").ok K, fun K => (He.Fa.glo "value_at").ok K, fun K => (He.Fa.glo "read_name").ok K, fun K => (He.Fa.glo "leaf_text").ok K, fun K => (He.Fa.glo "normal_leaf").ok K, fun K => (He.Fa.glo "order_of").ok K]
def hbs1 : List (PySem.W.Frag → Bool) := [fun K => (He.Fa.glo "need_name").ok K, fun K => (He.Fa.glo "need_table").ok K, fun K => (He.Fa.glo "_law_cell").ok K, fun K => (He.Fa.glo "_law_draw").ok K, fun K => (He.Fa.glo "_law_of").ok K, fun K => (He.Fa.glo "_law_words").ok K, fun K => (He.Fa.glo "_law_values").ok K, fun K => (He.Fa.glo "_law_text").ok K, fun K => (He.Fa.glo "_law_is_model").ok K, fun K => (He.Fa.glo "_law_put").ok K, fun K => (He.Fa.glo "_law_changed").ok K, fun K => (He.Fa.glo "_law_refused").ok K, fun K => (He.Fa.glo "law").ok K, fun K => (He.Fa.free "len").ok K, fun K => (He.Fa.free "isinstance").ok K, fun K => (He.Fa.free "str").ok K, fun K => (He.Fa.free "all").ok K, fun K => (He.Fa.free "enumerate").ok K, fun K => (He.Fa.free "tuple").ok K, fun K => (He.Fa.free "sorted").ok K, fun K => (He.Fa.free "dict").ok K, fun K => (He.Fa.free "super").ok K, fun K => (He.Fa.free "max").ok K, fun K => (He.Fa.free "int").ok K, fun K => (He.Fa.free "range").ok K, fun K => (He.Fa.free "reversed").ok K, fun K => (He.Fa.free "list").ok K, fun K => (He.Fa.int "MAX_WORD" 12).ok K, fun K => (He.Fa.str "LETTERS" "abcdefghijklmnopqrstuvwxyz").ok K, fun K => (He.Fa.int "MAX_TEXT" 60).ok K]
def hbs2 : List (PySem.W.Frag → Bool) := [fun K => (He.Fa.str "ESCAPED" ",+=\\").ok K, fun K => (He.Fa.str "BACKSLASH" "\\").ok K, fun K => (He.Fa.int "MAX_PAIRS" 4).ok K, fun K => (He.Fa.int "MAX_LEAVES" 12).ok K]
def hbs : List (PySem.W.Frag → Bool) := hbs0 ++ hbs1 ++ hbs2
def hex (K : PySem.W.Frag) : Bool := hbs.all fun f => f K
abbrev hR : PySem.W.OpenRow := PySem.W.OpenLaw.row PySem.Challenge.rw_dirservice_k19_whole_entries_as_plain_di
abbrev hhk : PySem.W.Hook := hookY 8 hex hfn
def hob (s : PySem.W.SharedT) : AlY := obsY 8 hex hfn (HandSHeadRun.getT s)
theorem hrun (w : World) : HandSHeadRun.RunEq hR (PySem.W.view hR.prog [42]) hhk hob 16720 hloose w := by
  intro os
  kernel_rfl
end My
namespace My
open PySem PySem.Spec PyProof.Rows L2
end My
namespace My
open PySem PySem.Spec PyProof.Rows L2
end My
namespace My
open PySem PySem.Spec PyProof.Rows L2
end My
namespace My
open PySem PySem.Spec PyProof.Rows L2
end My
namespace My
open PySem PySem.Spec PyProof.Rows L2
end My
namespace My
open PySem PySem.Spec PyProof.Rows L2
end My
namespace My
open PySem PySem.Spec PyProof.Rows L2
end My
namespace My
open PySem PySem.Spec PyProof.Rows L2
end My
namespace My
open PySem PySem.Spec PyProof.Rows L2
end My
namespace My
open PySem PySem.Spec PyProof.Rows L2
end My
namespace My
open PySem PySem.Spec PyProof.Rows L2
end My
namespace My
open PySem PySem.Spec PyProof.Rows L2
end My
namespace My
open PySem PySem.Spec PyProof.Rows L2
end My
namespace My
open PySem PySem.Spec PyProof.Rows L2
end My
namespace My
open PySem PySem.Spec PyProof.Rows L2
end My
namespace My
open PySem PySem.Spec PyProof.Rows L2
end My
namespace My
open PySem PySem.Spec PyProof.Rows L2
end My
namespace My
open PySem PySem.Spec PyProof.Rows L2
end My
namespace My
open PySem PySem.Spec PyProof.Rows L2
end My
namespace My
open PySem PySem.Spec PyProof.Rows L2
end My
namespace My
open PySem PySem.Spec PyProof.Rows L2
end My
namespace My
open PySem PySem.Spec PyProof.Rows L2
end My
namespace My
open PySem PySem.Spec PyProof.Rows L2
section
variable {P : Program} [hP : OkP fileS P] {w : World} {K : PySem.W.Frag} {mg : Str → Option Value} {base : Heap}
abbrev spC (k : Int) : Cell := .lst [.int k]
/-- at j stands a spot, and n draws may come -/
def Ds (μ : Store) (j n : Nat) : Prop := ∃ k : Int, μ[j]? = some (spC k) ∧ 0 ≤ k ∧ k + (n : Int) ≤ 1099511627776
/-- drawn: only the spot at j is another one -/
def Dz (μ : Store) (j n : Nat) (μ' : Store) : Prop := ∃ k : Int, μ' = μ.set j (spC k) ∧ j < μ.length ∧ 0 ≤ k ∧ k + (n : Int) ≤ 1099511627776
section
variable {μ μ' μ1 ν : Store} {i j n m : Nat}
theorem Ds.lt (h : Ds μ j n) : j < μ.length := by
  obtain ⟨k, h, _⟩ := h
  exact (List.getElem?_eq_some_iff.mp h).1
theorem Dz.trans (h : Dz μ j n μ1) (g : Dz μ1 j m μ') : Dz μ j m μ' := by
  obtain ⟨k, rfl, hj, h1⟩ := h
  obtain ⟨k2, rfl, hj2, g1⟩ := g
  exact ⟨k2, by rw [List.set_set], hj, g1⟩
theorem Dz.len (h : Dz μ j n μ') : μ'.length = μ.length := by
  obtain ⟨k, rfl, _⟩ := h
  exact List.length_set ..
theorem Ds.app (h : Ds μ j n) : Ds (μ ++ ν) j n := by
  have hl := h.lt
  obtain ⟨k, h, h1⟩ := h
  exact ⟨k, by rw [List.getElem?_append_left hl]; exact h, h1⟩
theorem Dz.app (h : Dz (μ ++ ν) j n μ') (hj : j < μ.length) : ∃ μ1, μ' = μ1 ++ ν ∧ Dz μ j n μ1 := by
  obtain ⟨k, rfl, _, h1⟩ := h
  exact ⟨μ.set j (spC k), List.set_append_left _ _ hj, k, rfl, hj, h1⟩
end
end
end My
namespace My
open PySem PySem.Spec PyProof.Rows L2
end My
namespace My
open PySem PySem.Spec PyProof.Rows L2
end My
namespace My
open PySem PySem.Spec PyProof.Rows L2
end My
namespace My
open PySem PySem.Spec PyProof.Rows L2
end My
namespace My
open PySem PySem.Spec PyProof.Rows L2
end My
namespace My
open PySem PySem.Spec PyProof.Rows L2
end My
namespace My
open PySem PySem.Spec PyProof.Rows L2
end My
namespace My
open PySem PySem.Spec PyProof.Rows L2
end My
namespace My
open PySem PySem.Spec PyProof.Rows L2
end My
namespace My
open PySem PySem.Spec PyProof.Rows L2
end My
namespace My
open PySem PySem.Spec PyProof.Rows L2
end My
namespace My
open PySem PySem.Spec PyProof.Rows L2
end My
namespace My
open PySem PySem.Spec PyProof.Rows L2
end My
namespace My
open PySem PySem.Spec PyProof.Rows L2
end My
namespace My
open PySem PySem.Spec PyProof.Rows L2
end My
namespace My
open PySem PySem.Spec PyProof.Rows L2
end My
namespace My
open PySem PySem.Spec PyProof.Rows L2
end My
namespace My
open PySem PySem.Spec PyProof.Rows L2
end My
namespace My
open PySem PySem.Spec PyProof.Rows L2
end My
namespace My
open PySem PySem.Spec PyProof.Rows L2
end My
namespace My
open PySem PySem.Spec PyProof.Rows L2
end My
namespace My
open PySem PySem.Spec PyProof.Rows L2
end My
namespace My
open PySem PySem.Spec PyProof.Rows L2
end My
namespace My
open PySem PySem.Spec PyProof.Rows L2
end My
namespace My
open PySem PySem.Spec PyProof.Rows L2
end My
namespace My
open PySem PySem.Spec PyProof.Rows L2
instance : OkP fileS (PySem.Challenge.rw_dirservice_k19_whole_entries_as_plain_di).prog := ⟨by kernel_rfl, by kernel_rfl⟩
end My
set_option Elab.async false
set_option linter.all false
set_option maxRecDepth 100000
set_option maxHeartbeats 4000000
namespace My
open PySem PySem.Spec PyProof.Rows L2
section
variable {X : Cx}
theorem PE_or {e : Expr} {t u : TE} (h : PE X e t) (k : PE X e u) : PE X e (fun σ H Q => t σ H Q ∨ u σ H Q) :=
  ⟨fun pins s σ H Q I hw => hw.elim (h.run pins s σ H Q I) (k.run pins s σ H Q I)⟩
theorem PI_or {tg it : Expr} {t u : TI} (h : PI X tg it t) (k : PI X tg it u) : PI X tg it (fun σ H R => t σ H R ∨ u σ H R) :=
  ⟨fun pins s σ H R I hw => hw.elim (h.run pins s σ H R I) (k.run pins s σ H R I)⟩
end
def rAddB : R2 := fun x y H Q => ∃ p q : Bool, x = .bl p ∧ y = .bl q ∧ Q (.int (b2i p + b2i q)) H
theorem op_addB {X : Cx} : OpR X (binaryOp .Add) rAddB := by
  intro pins s σ H x y v u Q I rx ry h
  obtain ⟨p, q, rfl, rfl, hq⟩ := h
  cases rx
  cases ry
  exact add_bool ⟨.int (b2i p + b2i q), H, I.tok _, ⟨_, rfl⟩, hq⟩
def rAddU (K : PySem.W.Frag) : R2 := fun x y H Q => (rI0 fun i j => V.int (i + j)) x y H Q ∨ (∃ i j, x = V.str i ∧ y = .str j ∧ i.length + j.length ≤ sizeLine ∧ Q (.str (i ++ j)) H) ∨ rCat x y H Q ∨ rCatA K x y H Q ∨ rAddB x y H Q
theorem op_Add {X : Cx} {K : PySem.W.Frag} (hK : X.K = K := by rfl) : OpR X (binaryOp .Add) (rAddU K) := hK ▸ op_add.or (op_add_str.or (op_cat.or (op_catA.or op_addB)))
def rMulS : R2 := fun x y H Q => ∃ (c : Nat) (k : Int), x = V.str ⟨#[c]⟩ ∧ y = .int k ∧ -100000 ≤ k ∧ k ≤ 100000 ∧ Q (.str (Txt.mul ⟨#[c]⟩ k)) H
theorem op_mulS {X : Cx} : OpR X (binaryOp .Mult) rMulS := by
  intro pins s σ H x y v u Q I rx ry h
  obtain ⟨c, k, rfl, rfl, h0, h1, q⟩ := h
  obtain ⟨t, rfl⟩ := rx
  obtain ⟨t', rfl⟩ := ry
  refine SB.mul ⟨?_, fun hk _ => ?_, fun hk _ => ?_⟩ fun t' tk => ⟨.str _, H, I.tok _, ⟨_, rfl⟩, q⟩
  · rw [decide_eq_false (by omega), decide_eq_false (by omega)]; rfl
  · show ¬ ((1 : Nat) : Int) > (2 ^ 63 - 1) / k
    have : (1 : Int) ≤ (2 ^ 63 - 1) / k := (Int.le_ediv_iff_mul_le (by omega)).mpr (by omega)
    omega
  · show decide (1 * k.toNat > sizeLine) = false
    have : 100000 ≤ sizeLine := by decide
    exact decide_eq_false (by omega)
def rMulU : R2 := fun x y H Q => (rI CMul fun i j => V.int (i * j)) x y H Q ∨ rRep x y H Q ∨ rMulS x y H Q
theorem op_Mult {X : Cx} : OpR X (binaryOp .Mult) rMulU := op_mul.or (op_rep.or op_mulS)
def rDivU : R2 := fun x y H Q => (rI CDiv fun i j => V.int (i / j)) x y H Q ∨ (rI CDivW fun i j => V.int (i / j)) x y H Q
theorem op_FloorDiv {X : Cx} : OpR X (binaryOp .FloorDiv) rDivU := op_fdiv.or op_fdivW
def rLtU : R2 := fun x y H Q => (rI0 fun i j => V.bl (decide (i < j))) x y H Q ∨ (∃ i j, x = V.str i ∧ y = .str j ∧ Q (.bl (decide (i.cps.toList < j.cps.toList))) H)
theorem cm_Lt {X : Cx} : OpR X (compareOp .Lt) rLtU := op_lt.or op_lt_str
def rLeU : R2 := rI0 fun i j => V.bl (decide (i ≤ j))
theorem cm_LtE {X : Cx} : OpR X (compareOp .LtE) rLeU := op_le
def rGtU : R2 := rI0 fun i j => V.bl (decide (j < i))
theorem cm_Gt {X : Cx} : OpR X (compareOp .Gt) rGtU := op_gt
def rGeU : R2 := rI0 fun i j => V.bl (decide (j ≤ i))
theorem cm_GtE {X : Cx} : OpR X (compareOp .GtE) rGeU := op_ge
def rEqU (K : PySem.W.Frag) : R2 := fun x y H Q => rEq x y H Q ∨ rEqD K x y H Q
theorem cm_Eq {X : Cx} {K : PySem.W.Frag} (hu : X.A.units + 64 < cLine) (hK : X.K = K := by rfl) : OpR X (compareOp .Eq) (rEqU K) := hK ▸ op_eq.or (op_eqD hu)
def rNeU (K : PySem.W.Frag) : R2 := fun x y H Q => rNe x y H Q ∨ rNeD K x y H Q
theorem cm_NotEq {X : Cx} {K : PySem.W.Frag} (hu : X.A.units + 64 < cLine) (hK : X.K = K := by rfl) : OpR X (compareOp .NotEq) (rNeU K) := hK ▸ op_ne.or (op_neD hu)
def rInU (K : PySem.W.Frag) : R2 := fun x y H Q => (∃ (c : Nat) (z : Str), x = V.str ⟨#[c]⟩ ∧ y = .str z ∧ Q (.bl (decide (c ∈ z.cps.toList))) H) ∨ rIn K false x y H Q ∨ rInD K x y H Q
theorem cm_In {X : Cx} {K : PySem.W.Frag} (hu : X.A.units + 65 < cLine) (hK : X.K = K := by rfl) : OpR X (compareOp .In) (rInU K) := hK ▸ op_in_sign.or (op_in_seq.or (op_inD hu))
def rNotInU (K : PySem.W.Frag) : R2 := fun x y H Q => (∃ (c : Nat) (z : Str), x = V.str ⟨#[c]⟩ ∧ y = .str z ∧ Q (.bl (!decide (c ∈ z.cps.toList))) H) ∨ rIn K true x y H Q ∨ rNotInD K x y H Q
theorem cm_NotIn {X : Cx} {K : PySem.W.Frag} (hu : X.A.units + 65 < cLine) (hK : X.K = K := by rfl) : OpR X (compareOp .NotIn) (rNotInU K) := hK ▸ op_notIn_sign.or (op_notIn_seq.or (op_notInD hu))
def rIsU : R2 := fun x y H Q => (y = V.non ∧ Q (.bl (decide (x = .non))) H) ∨ (∃ a b : Bool, x = V.bl a ∧ y = .bl b ∧ Q (.bl (decide (a = b))) H)
theorem cm_Is {X : Cx} : OpR X (compareOp .Is) rIsU := op_isN.or op_isBl
def rSlU (K : PySem.W.Frag) : V → Option Int → Option Int → Hp → VK → Prop := fun x lo hi H Q => rSlS x lo hi H Q ∨ rSlL K x lo hi H Q
theorem sl_any {X : Cx} {K : PySem.W.Frag} (hK : X.K = K := by rfl) : SlR X (rSlU K) := hK ▸ sl_str.or sl_list
theorem ix_any {X : Cx} {K : PySem.W.Frag} (hK : X.K = K := by rfl) : IxR X (rIx K) := hK ▸ ix_seq
def rLenU (K : PySem.W.Frag) : List V → Hp → VK → Prop := fun xs H Q => ∃ x n, xs = [x] ∧ LenV K x H n ∧ Q (.int n) H
theorem call_lenA {X : Cx} {K : PySem.W.Frag} (hK : X.K = K := by rfl) : CallR X (.builtin "len") (rLenU K) := hK ▸ call_len
theorem call_isiA {X : Cx} {K : PySem.W.Frag} (hK : X.K = K := by rfl) : CallR X (.builtin "isinstance") (rIsi K) := hK ▸ call_isi
theorem call_allA {X : Cx} {K : PySem.W.Frag} (hc : X.calm = true := by rfl) (hK : X.K = K := by rfl) : CallR X (.builtin "all") (rAll K) := hK ▸ cr_all hc
def rListU (K : PySem.W.Frag) : List V → Hp → VK → Prop := fun xs H Q => ∃ p ys, xs = [.ref p] ∧ (SqL K H p ys ∨ SqT K H p ys) ∧ ∀ l, H l = none → Q (.ref l) (upd H l (.lst ys))
theorem call_listA {X : Cx} {K : PySem.W.Frag} (hK : X.K = K := by rfl) : CallR X (.type "list") (rListU K) := hK ▸ call_list_of
def rTupU (K : PySem.W.Frag) : List V → Hp → VK → Prop := fun xs H Q => ∃ p ys, xs = [.ref p] ∧ ((SqL K H p ys ∧ ∀ l, H l = none → Q (.ref l) (upd H l (.tup ys))) ∨ (SqT K H p ys ∧ Q (.ref p) H))
theorem call_tupleA {X : Cx} {K : PySem.W.Frag} (hK : X.K = K := by rfl) : CallR X (.type "tuple") (rTupU K) := hK ▸ call_tuple_of
def rJoinU (K : PySem.W.Frag) : V → List V → Hp → VK → Prop := fun x xs H Q => ∃ a p, ∃ ys : List Str, x = .str a ∧ xs = [.ref p] ∧ (SqL K H p (ys.map V.str) ∨ SqT K H p (ys.map V.str)) ∧ (ys.map (·.length)).sum + ys.length * a.length ≤ 16777216 ∧ Q (.str (Txt.join a ys)) H
theorem mt_joinA {X : Cx} {K : PySem.W.Frag} (hK : X.K = K := by rfl) : MtR X "str.join" (rJoinU K) := hK ▸ mt_join
def rSplitU : V → List V → Hp → VK → Prop := fun x xs H Q => ∃ a b, x = .str a ∧ xs = [.str b] ∧ (b.length == 0) = false ∧ a.length + 2 ≤ sizeLine ∧ rNewStrs (Txt.split a b) H Q
theorem mt_splitA {X : Cx} : MtR X "str.split" rSplitU := mt_split
def rLowerU : V → List V → Hp → VK → Prop := fun x xs H Q => ∃ a, x = .str a ∧ xs = [] ∧ a.length ≤ 5592405 ∧ Q (.str (Txt.lower a)) H
theorem mt_lowerA {X : Cx} : MtR X "str.lower" rLowerU := mt_lower
def rIntU : List V → Hp → VK → Prop := fun xs H Q => ((∃ i, xs = [V.int i] ∧ Q (.int i) H) ∨ ∃ k, xs = [V.bl k] ∧ Q (.int (if k then 1 else 0)) H) ∨ (∃ a n, xs = [V.str a] ∧ PySem.intText? a = some n ∧ a.length ≤ 640 ∧ Q (.int n) H)
theorem call_intA {X : Cx} : CallR X (.type "int") rIntU := call_int1.or call_int_str
def rFindU : V → List V → Hp → VK → Prop := fun x xs H Q => (∃ a b, x = .str a ∧ xs = [.str b] ∧ Q (.int (Txt.find a b)) H) ∨ (∃ (a b : Str) (i : Int), x = .str a ∧ xs = [.str b, .int i] ∧ Q (.int (Txt.find3 a b i)) H)
theorem mt_findA {X : Cx} : MtR X "str.find" rFindU := mt_find.or mt_find3
def iAny (K : PySem.W.Frag) (te : TE) : TI := fun σ H R => iList K te σ H R ∨ iTup K te σ H R ∨ iStr te σ H R
theorem pi_any {X : Cx} {K : PySem.W.Frag} {tg e : Expr} {te : TE} (h : PE X e te) (hK : X.K = K := by rfl) : PI X tg e (iAny K te) := hK ▸ PI_or (pi_list h) (PI_or (pi_tup h) (pi_str h))
theorem hu65 {k : Nat} {A : Around} (r : Room k A) : A.units + 65 < cLine := by have := r.un; omega
section
variable {X : Cx}
theorem pe_globI {x : Str} {i : Int} {pos : Pos} (hg : Gl X x) (hm : ∃ t, X.mg x = some (.int i t)) (hd : (x == ("__debug__" : Str)) = false := by decide) : PE X (.Name x pos) (tC (.int i)) := hm.elim fun t h => pe_glob hg h ⟨t, rfl⟩ hd
theorem pe_globS {x z : Str} {pos : Pos} (hg : Gl X x) (hm : ∃ t, X.mg x = some (.str z t)) (hd : (x == ("__debug__" : Str)) = false := by decide) : PE X (.Name x pos) (tC (.str z)) := hm.elim fun t h => pe_glob hg h ⟨t, rfl⟩ hd
theorem pe_globR {x : Str} {a : Addr} {pos : Pos} (hg : Gl X x) (hm : X.mg x = some (.ref a)) (hd : (x == ("__debug__" : Str)) = false := by decide) : PE X (.Name x pos) (tC (.ref a)) := pe_glob hg hm rfl hd
theorem pe_bty {x : Str} {T : String} {pos : Pos} (hg : Gl X x) (hm : X.mg x = none) (hv : bootBuiltins x = some (.type T)) (hn : x ≠ "__name__" := by decide) (hd : (x == ("__debug__" : Str)) = false := by decide) : PE X (.Name x pos) (tC (.ty T)) := pe_bltn hg hm hv rfl hn hd
end
section
variable {X : Cx} {K : PySem.W.Frag} {o e : Expr} {es : List Expr} {to : TE} {t : TA} {name : Str} {apos cpos : Pos} {T id : String} {r : V → List V → Hp → VK → Prop}
theorem pe_bm0K (pa : PlainAttrs T) (slot : Slot T name id) (hty : typeOf (.builtin id) = pure (.type "method_descriptor")) (hm : MtR X id r) (ho : PE X o to)
    (hK : X.K = K := by rfl) (hbase : attributeBase o name X.env (eval o X.env) = eval o X.env := by rfl) (hline : (apos.endLine == cpos.line) = true := by rfl) : PE X (.Call (.Attribute o name apos) [] [] cpos) (tBM0 K T r to) := hK ▸ pe_bm0 pa slot hty hm ho hbase hline
theorem pe_bmK (pa : PlainAttrs T) (slot : Slot T name id) (hty : typeOf (.builtin id) = pure (.type "method_descriptor")) (hm : MtR X id r) (ho : PE X o to) (ha : PA X (e :: es) t)
    (hK : X.K = K := by rfl) (hbase : attributeBase o name X.env (eval o X.env) = eval o X.env := by rfl)
    (hfew : ((backTo cpos (starEach (e :: es) X.env)).all (fun x => !x.1) && (backToKw cpos (keywordEach [] X.env)).all (fun x => x.1.isSome)
      && decide ((e :: es).length + ([] : List Keyword).length + (if ([] : List Keyword).isEmpty then 0 else 1) < 30)) = true := by rfl)
    (hline : (apos.endLine == cpos.line) = true := by rfl) (hs : starEach (e :: es) X.env = (false, eval e X.env) :: starEach es X.env := by rfl) (hplain : (backTo cpos (starEach es X.env)).any (·.1) = false := by rfl) :
    PE X (.Call (.Attribute o name apos) (e :: es) [] cpos) (tBM K T r to t) := hK ▸ pe_bm pa slot hty hm ho ha hbase hfew hline hs hplain
theorem pg_tupK {ts : List Expr} {k : Nat} {tg : TGs} {n : Nat} {pos : Pos} (hc : X.calm = true) (h : PGs X ts tg)
    (hK : X.K = K := by rfl) (hn : (assignEach ts X.env).length = n := by rfl) (hst : (assignEach ts X.env).findIdx? (·.1) = none := by rfl) : PG X (.Tuple ts k pos) (gTup K n tg) := hK ▸ pg_tup hc h hn hst
end
theorem pe_callC {X : Cx} {k : Nat} {x : Str} {ps : List Str} {sp : Sp} {e : Expr} {es : List Expr} {t : TA} {p pos : Pos} (C : Cal X.prog X.w X.K X.mg X.base k x ps sp) (hr : Room k X.A) (hg : Gl X x) (ha : PA X (e :: es) t)
    (hdb : (x == ("__debug__" : Str)) = false := by decide) (he : starEach (e :: es) X.env = (false, eval e X.env) :: starEach es X.env := by rfl) (hpl : (backTo pos (starEach es X.env)).any (·.1) = false := by rfl) : PE X (.Call (.Name x p) (e :: es) [] pos) (tCall sp [] E0 t) := by
  obtain ⟨f, fd, F, hm, hk, hb, _⟩ := C.ex
  exact pe_call F hr hg hm hk hb .nil pass0 ha hdb he hpl
theorem Rel.refl (R : Rel) {n : Nat} {H H1 : Hp} (e : R.ok n H H1) : R.ok n H1 H1 := ⟨e.1, pres.refl H1⟩
theorem Rel.fresh (R : Rel) {n : Nat} {H : Hp} {p : Addr} (j : R.J n H) (h : H p = none) : ¬ R.M p := fun m => R.alive j m h
/-- the list at D changes, too: it holds xs, it holds some list -/
def Rel.at (R : Rel) (D : Addr) (xs : List V) : Rel := ⟨fun a => R.M a ∨ a = D, fun n H => R.J n H ∧ H D = some (.lst xs), fun j m => m.elim (fun m => R.alive j.1 m) (fun e => by rw [e, j.2]; exact fun z => nomatch z), fun j e => ⟨R.loc j.1 fun a m => e a (.inl m), (e D (.inr rfl)).trans j.2⟩, fun j h => ⟨R.dec j.1 h, j.2⟩⟩
/-- the value is v -/
def is (v : V) : SP := ⟨fun _ x _ => x = v, fun _ h => h, fun _ h => h⟩
section
variable {M M' : Addr → Prop} {K : PySem.W.Frag} {H H' : Hp}
theorem SqM.sq {p : Addr} {xs : List V} (h : SqM K M H p xs) : SqL K H p xs := h.elim (fun a => .inl a.1) fun a => a H
theorem StM.sq {p : Addr} {xs : List V} (h : StM K M H p xs) : SqT K H p xs := h.elim (fun a => .inl a.1) fun a => a H
theorem SqM.of {p : Addr} {xs : List V} (h : H p = some (.lst xs)) (m : ¬ M p) : SqM K M H p xs := .inl ⟨.inl h, m⟩
theorem StM.of {p : Addr} {xs : List V} (h : H p = some (.tup xs)) (m : ¬ M p) : StM K M H p xs := .inl ⟨.inl h, m⟩
theorem LtM.sqm {p : Addr} {xs : List V} (h : LtM M H p xs) : SqM K M H p xs := .of h.1 h.2
theorem LtM.sq {p : Addr} {xs : List V} (h : LtM M H p xs) : SqL K H p xs := .inl (.inl h.1)
end
def SP.or (p q : SP) : SP := ⟨fun M v H => p.P M v H ∨ q.P M v H, fun e h => h.imp (p.st e) (q.st e), fun w h => h.imp (p.lift w) (q.lift w)⟩
/-- facts by M at H are carried over to M' at H' -/
structure Ext0 (M : Addr → Prop) (H : Hp) (M' : Addr → Prop) (H' : Hp) : Prop where
  w : ∀ a, M' a → M a ∨ H a = none
  pr : pres M' H H'
theorem Ext0.get {M M' : Addr → Prop} {H H' : Hp} (s : Ext0 M H M' H') {p : SP} {v : V} (h : p.P M v H) : p.P M' v H' := p.st s.pr (p.lift s.w h)
theorem Ext0.of {R : Rel} {n : Nat} {H H' : Hp} (e : R.ok n H H') : Ext0 R.M H R.M H' := ⟨fun _ m => .inl m, e.2⟩
theorem Ext.get {R R' : Rel} {H H' : Hp} (s : Ext R H R' H') {p : SP} {v : V} (h : p.P R.M v H) : p.P R'.M v H' := p.st s.pr (p.lift s.w h)
theorem Ext.refl {R : Rel} {n : Nat} {H H' : Hp} (e : R.ok n H H') : Ext R H R H' := ⟨fun _ m => .inl m, fun _ m => m, fun _ _ h => h, fun _ _ _ _ _ _ _ h => h, e.2⟩
theorem Ext.at {R : Rel} {n m : Nat} {H H' : Hp} {D : Addr} {acc : List V} (j : R.J n H) (e : R.ok m H H') (hD : H D = none) (h : H' D = some (.lst acc)) : Ext R H (R.at D acc) H' := by
  refine ⟨fun a m => m.imp id fun z => by rw [z]; exact hD, fun a m => .inl m, fun _ _ j => j.1, fun _ _ H1 a o m j1 j' => ⟨j', ?_⟩, e.2.wider fun a m => .inl m⟩
  have ne : D ≠ a := fun z => R.alive j m (by rw [← z]; exact hD)
  rw [upd_ne ne]
  exact j1.2
section
variable {R : Rel} {n m k : Nat}
variable {K : PySem.W.Frag} {σ : L2.St} {H H' : Hp} {ta tb tc te : TE} {t u : TT} {x y z v : V} {r : R2} {p q s : SP}
theorem EvP.more {n' : Nat} (h : EvP R n m te σ H p) (hn : n ≤ n') : EvP R n' m te σ H p := fun H1 a Q f => h H1 ⟨R.dec a.1 hn, a.2⟩ Q f
variable {D : Ends} {tu tw tz : TS} {g : TG}
theorem StF.more {ts : TS} {n' : Nat} (h : StF R n ts D σ H) (hn : n ≤ n') : StF R n' ts D σ H := fun H1 a => h H1 ⟨R.dec a.1 hn, a.2⟩
end
end My
namespace My
open PySem PySem.Spec PyProof.Rows L2
theorem sv_inj {a b : Codes} (h : sv a = sv b) : a = b := SX.S_inj (V.str.inj h)
theorem sv_of (x : Str) : V.str x = sv (cs x) := congrArg V.str (SX.S_tl x).symm
theorem dec_sv (a b : Codes) : decide (sv a = sv b) = decide (a = b) := by
  by_cases h : a = b
  · rw [decide_eq_true h, decide_eq_true (by rw [h])]
  · rw [decide_eq_false h, decide_eq_false fun e => h (sv_inj e)]
theorem dec_int (a b : Int) : decide (V.int a = V.int b) = decide (a = b) := by
  by_cases h : a = b
  · rw [decide_eq_true h, decide_eq_true (by rw [h])]
  · rw [decide_eq_false h, decide_eq_false fun e => h (V.int.inj e)]
theorem dec_bl (a b : Bool) : decide (V.bl a = V.bl b) = (a == b) := by
  cases a <;> cases b <;> rfl
theorem slen {l : Codes} (h : l.length ≤ 100000) : (SX.S l).length ≤ sizeLine := by
  rw [SX.S_len]
  exact Evl.sz_of h
section
variable {R : Rel} {n m k : Nat} {K : PySem.W.Frag} {σ : L2.St} {H H' : Hp} {ta tb tc te : TE} {t u : TT} {x y z v : V} {p q s : SP}
variable {i j : Int} {a b : Codes}
/-- slices by codes -/
def sl (l : Codes) (lo hi : Option Int) : Codes := cs (cutS (SX.S l) lo hi)
theorem sl_to {i : Int} (h : 0 ≤ i) : sl a none (some i) = a.take i.toNat := by
  unfold sl
  rw [C8.cutS_slice, SX.slice_to h]
theorem sl_from {i : Int} (h : 0 ≤ i) : sl a (some i) none = a.drop i.toNat := by
  unfold sl
  rw [C8.cutS_slice, SX.slice_from h]
theorem one {vs : List V} (h : Paired (fun v (p : SP) => p.P R.M v H) vs [p]) : ∃ v, vs = [v] ∧ p.P R.M v H := by
  cases h with
  | cons a b => cases b; exact ⟨_, rfl, a⟩
end
end My
namespace My
open PySem PySem.Spec PyProof.Rows L2
theorem SqM.ofL {K : PySem.W.Frag} {M : Addr → Prop} {H : Hp} {p : Addr} {xs : List V} (h : SqL K H p xs) (m : ¬ M p) : SqM K M H p xs := h.imp (fun a => ⟨a, m⟩) fun a _ => .inr a
end My
namespace My
open PySem PySem.Spec PyProof.Rows L2
section
variable {P : Program} {w : World} {K : PySem.W.Frag} {mg : Str → Option Value} {base : Heap}
/-- a def as the head tells it: it stands at its global name -/
structure Df (K : PySem.W.Frag) (mg : Str → Option Value) (x : Str) (st : Stmt) : Prop where
  ex : ∃ f fd, FunD K x x (defArgs st) (defBody st) (defScope st) [] [] f fd ∧ mg x = some (.ref f)
theorem Df.cal {x : Str} {st : Stmt} {N ps : List Str} {k : Nat} {sp : Sp} (F : Df K mg x st) (S : FnScope N ps (defScope st)) (len : ∀ vs H Q E, sp vs H Q E → vs.length = ps.length)
    (hbd : ∀ (kV doc pm : Value) (an : Option Addr) (cdv ct : Value) (us : List Value), us.length = ps.length → bindArgs (PySem.W.fnOf x x (defArgs st) (defBody st) (defScope st) .none kV doc pm an cdv ct) ⟨us, []⟩ = pure (ps.zip us))
    (hbody : ∀ (f : Addr) (cdv : Value) (A : Around) (outer : List Env) (s : Shared) (H : Hp) (vs : List V) (Q : VK) (E : XK), Room k (A.deeper (envOfC x (defScope st) s.heap.objs.size f cdv)) → sp vs H Q E →
      ∃ t, PSs (cxOf CX0 P w K mg base N x (defScope st) f cdv A outer s H E).nox (defBody st) t ∧ t { nx := fun _ H' => Q .non H', rt := Q } (start N vs) H) : Cal P w K mg base (k + 1) x ps sp := by
  obtain ⟨f, fd, F, hm⟩ := F.ex
  refine ⟨f, fd, F.ok S len fun cdv A outer s H vs Q E hr h => ?_, hm, F.kp, F.bindsN hbd, by
    obtain ⟨oc, od, _, _, _, _, _, _, _, osl, _, lk, _⟩ := F.ex
    exact ⟨oc, od, osl, lk⟩⟩
  obtain ⟨t, h1, h2⟩ := hbody f cdv A outer s H vs Q E hr h
  exact ⟨t, PSs.nox h1, h2⟩
end
/-- the law's own def -/
theorem FunD_fn {P : Program} {w : World} {K : PySem.W.Frag} {mg : Str → Option Value} {base : Heap} {x : Str} {st : Stmt} {N ps : List Str} {k : Nat} {sp : Sp} {f : Addr} {fd : FuncData} (F : FunD K x x (defArgs st) (defBody st) (defScope st) [] [] f fd) (S : FnScope N ps (defScope st)) (len : ∀ vs H Q E, sp vs H Q E → vs.length = ps.length)
    (hbody : ∀ (cdv : Value) (A : Around) (outer : List Env) (s : Shared) (H : Hp) (vs : List V) (Q : VK) (E : XK), Room k (A.deeper (envOfC x (defScope st) s.heap.objs.size f cdv)) → sp vs H Q E →
      ∃ t, PSs (cxOf CX0 P w K mg base N x (defScope st) f cdv A outer s H E).nox (defBody st) t ∧ t { nx := fun _ H' => Q .non H', rt := Q } (start N vs) H) : FnOk P w K mg base CX0 (k + 1) f fd ps sp :=
  F.ok S len fun cdv A outer s H vs Q E hr h => by
    obtain ⟨t, h1, h2⟩ := hbody cdv A outer s H vs Q E hr h
    exact ⟨t, PSs.nox h1, h2⟩
end My
namespace My
open PySem PySem.Spec PyProof.Rows L2
section
variable {R : Rel} {n m k : Nat} {K : PySem.W.Frag} {σ : L2.St} {H H' : Hp} {ta tb tc te : TE} {t u : TT} {x y z v : V} {p q s : SP} {D : Ends} {tu tw tz : TS} {g : TG} {a b : Codes}
theorem map_sv (ls : List Codes) : (ls.map SX.S).map V.str = ls.map sv := List.map_map ..
theorem EvP.asG {G : V → Prop} (h : EvP R n m te σ H (is v)) (g : G v) : EvP R n m te σ H (sat G) := h.imp fun w H1 _ e => by
  have e : w = v := e
  subst e
  exact g
abbrev nt (F : Int → Prop) : SP := sat fun v => ∃ i, v = .int i ∧ F i
theorem EvP.nt {F : Int → Prop} {i : Int} (h : EvP R n m te σ H (is (.int i))) (g : F i) : EvP R n m te σ H (nt F) := h.asG ⟨i, rfl, g⟩
theorem old_none {l : Addr} (e : R.ok n H H') (h : H' l = none) : H l = none := by
  cases h0 : H l with
  | none => rfl
  | some o =>
    by_cases hm : R.M l
    · exact absurd h (R.alive e.1 hm)
    · rw [e.2 l o hm h0] at h
      cases h
end
end My
namespace My
open PySem PySem.Spec PyProof.Rows L2
def Ies (x : Str) : It := ⟨fun i _ => i < x.cps.size, fun i H v H' => ∃ T c, v = .ref T ∧ H T = none ∧ H' = upd H T (.tup [.int (i : Nat), .str ⟨#[c]⟩]) ∧ x.cps[i]? = some c, fun i _ => x.cps.size ≤ i⟩
theorem turn_enumS {P : Program} {w : World} {K : PySem.W.Frag} {elts : List Expr} {kk : Nat} {tpos : Pos} (x : Str) (t : Tok) (e it : Addr) :
    Turn P w K (.Tuple elts kk tpos) (Ies x) [e, it] e (fun i h => (∃ old, IsEnum h e it ((i : Nat) : Int) old) ∧ h.IsStrIter it (strIterType x) x t i ∧ e ≠ it ∧ i ≤ x.cps.size) where
  mem := by simp
  obj := fun i h st b hb => by
    obtain ⟨⟨old, he⟩, ⟨o, ho, hc, hd⟩, _⟩ := st
    have e' : b = e ∨ b = it := by simpa using hb
    rcases e' with z | z
    · rw [z]; exact ⟨_, he, fun v q => nomatch q⟩
    · rw [z]; exact ⟨o, ho, fun v q => by rw [hd] at q; cases q⟩
  keep := fun i h h' st k => by
    obtain ⟨⟨old, he⟩, ⟨o, ho, r⟩, hne, hl⟩ := st
    exact ⟨⟨old, k e (by simp) _ he⟩, ⟨o, k it (by simp) o ho, r⟩, hne, hl⟩
  item := by
    intro X hP hw hK hc i pins s σ H E I hf st hg
    subst hP hw hK
    obtain ⟨⟨old, he⟩, hit, hne, hl⟩ := st
    have hel : e < s.heap.objs.size := Heap.lt_size he
    have hil : it < s.heap.objs.size := by obtain ⟨_, q, _⟩ := hit; exact Heap.lt_size q
    have hh : X.A.in1.handled = none := I.ok.hd hc
    refine wpAny_pyNext_enum_itemD (Draws.text hh it x t) he hit hg hne (by simpa using hne) fun u h' tk hPx ho hit' hT hsz hk => ?_
    obtain ⟨c, tc, hcx, rfl⟩ := hPx
    refine ⟨_, rfl, wpAny_letOwnedTupleGo_enum (s := { s with heap := h', toks := tk + 1 }) ho fun h'' he' sb => ?_⟩
    have hT2 : h''.get? s.heap.objs.size = some { cls := .type "tuple", data := .seq #[.int i tk, .str ⟨#[c]⟩ tc] } := (sb.2 _ (Nat.ne_of_gt hel)).trans hT
    have new : ObjOk X.prog X.w (upd H s.heap.objs.size (.tup [.int (i : Nat), .str ⟨#[c]⟩])) h'' s.heap.objs.size (.tup [.int (i : Nat), .str ⟨#[c]⟩]) :=
      ⟨by show 2 ≤ sizeLine; decide, [.int i tk, .str ⟨#[c]⟩ tc], .cons ⟨_, rfl⟩ (.cons ⟨_, rfl⟩ .nil), ⟨_, hT2, rfl, _, rfl⟩⟩
    have I1 : Inv X pins σ (upd H s.heap.objs.size (.tup [.int (i : Nat), .str ⟨#[c]⟩])) { s with heap := h'', toks := tk + 1 } :=
      I.turnedNew (ch := [e, it]) (fun b ob hb q => (sb.2 b (fun z => hb (by simp [z]))).trans (hk b ob (fun z => hb (by simp [z])) (fun z => hb (by simp [z])) q)) hf (Nat.le_refl _) new
    refine ⟨.ref s.heap.objs.size, _, I1, rfl, ⟨_, c, rfl, I.hok.fresh (Nat.le_refl _), rfl, hcx⟩, ⟨⟨.str ⟨#[c]⟩ tc, ?_⟩, ?_, hne, hg⟩, fun b hb => ?_⟩
    · have e1 : ((i + 1 : Nat) : Int) = (i : Int) + 1 := by omega
      rw [e1]; exact he'
    · obtain ⟨o, ho2, r⟩ := hit'
      exact ⟨o, (sb.2 it (Ne.symm hne)).trans ho2, r⟩
    · have hb' : b < s.heap.objs.size := by
        have e' : b = e ∨ b = it := by simpa using hb
        rcases e' with z | z
        · rw [z]; exact hel
        · rw [z]; exact hil
      rw [upd_ne (Nat.ne_of_lt hb')]
      exact (hf b hb).1
  done := by
    intro X hP hw hK hc i pins s σ H E I hf st hg
    subst hP hw hK
    obtain ⟨⟨old, he⟩, hit, hne, hl⟩ := st
    obtain ⟨f0, f1, f2, f3, f4, f5⟩ := hf it (by simp)
    have hi : i = x.cps.size := Nat.le_antisymm hl hg
    subst hi
    have hh : X.A.in1.handled = none := I.ok.hd hc
    exact wpAny_pyNext_enum_endD (Draws.text hh it x t) he hit fun h' eb => ⟨rfl, I.turned (t' := s.toks) (fun b o hb q => eb b o hb q) f0 f1 f3 f4 f5⟩
  self := fun A i s Q E st h => let ⟨⟨_, he⟩, _⟩ := st; wpAny_pyIter_enum he h
def iEnumS (ta : TA) : TI := fun σ H R => ta σ H fun vs H1 => ∃ x, vs = [.str x] ∧ R (Ies x) H1
theorem pi_enumS {X : Cx} {e : Expr} {ta : TA} {p pos tpos : Pos} {elts : List Expr} {kk : Nat} (hg : Gl X "enumerate") (hm : X.mg "enumerate" = none) (ha : PA X [e] ta) (hs : starEach [e] X.env = [(false, eval e X.env)] := by rfl) :
    PI X (.Tuple elts kk tpos) (.Call (.Name "enumerate" p) [e] [] pos) (iEnumS ta) := by
  refine ⟨fun pins s σ H R I h => ?_⟩
  refine Call_ (ld_blt I hg hm boot_enumerate (PyProof.Rows.callWith_type1 (thn (ha.run pos pins s σ H _ I h) fun us s1 ⟨vs, H1, I1, r1, q1⟩ => ?_) hs rfl))
  obtain ⟨x, ex, q⟩ := q1
  subst ex
  cases r1 with
  | cons r rr =>
    cases rr
    obtain ⟨t, rfl⟩ := r
    refine call_enumerate_str fun h' he hit hsz hk => wpAny_pyIter_enum he ?_
    have I2 : Inv X pins σ H1 { s1 with heap := h' } := I1.kept (t' := s1.toks) hk
    refine ⟨s1.heap.objs.size + 1, [s1.heap.objs.size + 1, s1.heap.objs.size], _, _, H1, rfl, I2, turn_enumS x t (s1.heap.objs.size + 1) s1.heap.objs.size, ⟨⟨.none, he⟩, hit, Nat.succ_ne_self _, Nat.zero_le _⟩, fun b hb => ?_, q⟩
    have e' : b = s1.heap.objs.size + 1 ∨ b = s1.heap.objs.size := by simpa using hb
    have hle : s1.heap.objs.size ≤ b := by
      rcases e' with z | z
      · rw [z]; exact Nat.le_add_right _ _
      · rw [z]; exact Nat.le_refl _
    exact I1.fpOk hle (I1.hok.fresh hle)
def iEnumU (K : PySem.W.Frag) (ta : TA) : TI := fun σ H R => iEnumS ta σ H R ∨ iEnum K ta σ H R
theorem pi_enumA {X : Cx} {K : PySem.W.Frag} {e : Expr} {ta : TA} {p pos tpos : Pos} {elts : List Expr} {kk : Nat} (hg : Gl X "enumerate") (hm : X.mg "enumerate" = none) (ha : PA X [e] ta) (hs : starEach [e] X.env = [(false, eval e X.env)] := by rfl) (hK : X.K = K := by rfl) :
    PI X (.Tuple elts kk tpos) (.Call (.Name "enumerate" p) [e] [] pos) (iEnumU K ta) := hK ▸ PI_or (pi_enumS hg hm ha hs) (pi_enum hg hm ha hs)
end My
namespace My
open PySem PySem.Spec PyProof.Rows L2
section
variable {R : Rel} {n m k : Nat} {K : PySem.W.Frag} {σ : L2.St} {H H' : Hp} {ta tb tc te : TE} {t u : TT} {x y z v : V} {p q s : SP} {D : Ends} {tu tw tz : TS} {g : TG} {a b : Codes}
def fnd3 (l b : Codes) (i : Int) : Int := Txt.find3 (SX.S l) (SX.S b) i
end
end My
namespace My
open PySem PySem.Spec PyProof.Rows L2
section
variable {R : Rel} {n m k : Nat} {K : PySem.W.Frag} {σ : L2.St} {H H' : Hp} {ta tb tc te : TE} {t u : TT} {x y z v : V} {p q s : SP} {D : Ends} {tu tw tz : TS} {g : TG} {a b : Codes}
abbrev Pr := Codes × Codes
def pairF (H0 : Hp) (v : V) (q : Pr) (H : Hp) : Prop := ∃ T, v = .ref T ∧ H0 T = none ∧ H T = some (.tup [sv q.1, sv q.2])
def leafF (H0 : Hp) (v : V) (ps : List Pr) (H : Hp) : Prop := ∃ T vs, v = .ref T ∧ H0 T = none ∧ H T = some (.tup vs) ∧ Paired (fun v q => pairF H0 v q H) vs ps
def keepT (H0 H H' : Hp) : Prop := ∀ a vs, H0 a = none → H a = some (.tup vs) → H' a = some (.tup vs)
theorem keepT.pr1 {H0 : Hp} (k : keepT H0 H H') {v : V} {q : Pr} (h : pairF H0 v q H) : pairF H0 v q H' := by
  obtain ⟨T, rfl, h0, h⟩ := h
  exact ⟨T, rfl, h0, k T _ h0 h⟩
theorem keepT.lf {H0 : Hp} (k : keepT H0 H H') {v : V} {q : List Pr} (h : leafF H0 v q H) : leafF H0 v q H' := by
  obtain ⟨T, vs, rfl, h0, h, g⟩ := h
  exact ⟨T, vs, rfl, h0, k T _ h0 h, Paired_imp (fun _ _ z => k.pr1 z) g⟩
/-- two lists of the run's own: leaves, and the pairs of the next one -/
structure RdSt (R : Rel) (n : Nat) (H0 : Hp) (L P : Addr) (xs ys : List V) (ls : List (List Pr)) (ps : List Pr) (H : Hp) : Prop where
  j0 : R.J n H0
  J : R.J n H
  pr : pres R.M H0 H
  ne : L ≠ P
  l0 : H0 L = none
  p0 : H0 P = none
  hL : H L = some (.lst xs)
  hP : H P = some (.lst ys)
  fl : Paired (fun v q => leafF H0 v q H) xs ls
  fp : Paired (fun v q => pairF H0 v q H) ys ps
variable {H0 : Hp} {L P T : Addr} {xs ys : List V} {ls : List (List Pr)} {ps : List Pr}
theorem old0 (h : pres R.M H0 H) (j0 : R.J n H0) (j : R.J n H) (e : H T = none) : H0 T = none := old_none (R := R) (n := n) ⟨j, h⟩ e
theorem pres_upd0 {l : Addr} {o : HO} (h : pres R.M H0 H) (hl : H0 l = none) : pres R.M H0 (upd H l o) := fun a ob ma ha => by
  have ne : a ≠ l := fun z => by rw [z, hl] at ha; cases ha
  rw [upd_ne ne]
  exact h a ob ma ha
theorem RdSt.fresh (h : RdSt R n H0 L P xs ys ls ps H) (hT : H T = none) : RdSt R n H0 L T xs [] ls [] (upd H T (.lst [])) := by
  have t0 := old0 h.pr h.j0 h.J hT
  have neT : L ≠ T := fun z => by rw [← z, h.hL] at hT; cases hT
  have k : keepT H0 H (upd H T (.lst [])) := fun a vs h0 ha => by
    have n2 : a ≠ T := fun z => by rw [z, hT] at ha; cases ha
    rw [upd_ne n2]
    exact ha
  refine ⟨h.j0, R.put h.J (R.fresh h.j0 t0), pres_upd0 h.pr t0, neT, h.l0, t0, ?_, upd_same, Paired_imp (fun _ _ z => k.lf z) h.fl, .nil⟩
  rw [upd_ne neT]
  exact h.hL
theorem inV_sv (w : Codes) : ∀ (ws : List Codes), inV (sv w) (ws.map sv) = decide (w ∈ ws)
  | [] => by rw [decide_eq_false (by simp)]; rfl
  | x :: ws => by
    have ih := inV_sv w ws
    unfold inV at ih ⊢
    rw [List.map_cons, List.any_cons, ih]
    have e : eqV (sv x) (sv w) = decide (x = w) := by
      show (SX.S x == SX.S w) = _
      by_cases h : x = w
      · rw [h, decide_eq_true rfl]
        exact beq_self_eq_true _
      · rw [decide_eq_false h]
        exact beq_eq_false_iff_ne.mpr fun z => h (SX.S_inj z)
    rw [e]
    by_cases h : x = w
    · rw [decide_eq_true h, decide_eq_true (show w ∈ x :: ws by rw [h]; exact List.mem_cons_self ..)]
      rfl
    · rw [decide_eq_false h, Bool.false_or]
      exact decide_eq_decide.mpr ⟨fun z => List.mem_cons_of_mem _ z, fun z => (List.mem_cons.mp z).resolve_left fun e => h e.symm⟩
end
end My
namespace My
open PySem PySem.Spec PyProof.Rows L2
def perm {α : Type} (js : List Nat) (l : List α) : List α := js.filterMap fun j => l[j]?
theorem paired_get {α β : Type} {F : α → β → Prop} : ∀ {xs : List α} {ys : List β} (_ : Paired F xs ys) (i : Nat), (∃ x y, xs[i]? = some x ∧ ys[i]? = some y ∧ F x y) ∨ (xs[i]? = none ∧ ys[i]? = none)
  | _, _, .nil, _ => .inr ⟨rfl, rfl⟩
  | _, _, .cons a _, 0 => .inl ⟨_, _, rfl, rfl, a⟩
  | _, _, .cons _ b, i + 1 => paired_get b i
theorem perm_rel {α β : Type} {F : α → β → Prop} {vs : List α} {us : List β} (r : Paired F vs us) : ∀ js : List Nat, Paired F (perm js vs) (perm js us)
  | [] => .nil
  | j :: js => by
    have ih := perm_rel r js
    unfold perm at ih ⊢
    rcases paired_get r j with ⟨x, y, h1, h2, h3⟩ | ⟨h1, h2⟩
    · rw [List.filterMap_cons_some h1, List.filterMap_cons_some h2]
      exact .cons h3 ih
    · rw [List.filterMap_cons_none h1, List.filterMap_cons_none h2]
      exact ih
end My
namespace My
open PySem PySem.Spec PyProof.Rows L2
section
variable {X : Cx} {CX : CXT} {n : Nat} {C g : Addr} {sp : Sp} {E : XK} {pins : List (Addr × Obj)} {σ : L2.St} {H : Hp} {s : Shared}
theorem ins_inst {a dx : Addr} {fs : List (PySem.Str × V)} (I : Inv X pins σ H s) (e : H a = some (.ins C dx fs)) : ∃ od, PySem.W.InstAt s.heap a (PySem.W.instObj C dx) C (some od) := by
  obtain ⟨mA, J, _⟩ := ins_get I.hok e
  obtain ⟨od, J2, _⟩ := J.look
  exact ⟨od, J2⟩
end
end My
namespace My
open PySem PySem.Spec PyProof.Rows L2
theorem ofString_inj {a b : String} (h : Str.ofString a = Str.ofString b) : a = b := by
  rw [Str.ofString_eq_toList, Str.ofString_eq_toList] at h
  have h1 : (a.toList.map Char.toNat).toArray = (b.toList.map Char.toNat).toArray := congrArg Str.cps h
  have h2 : a.toList.map Char.toNat = b.toList.map Char.toNat := by simpa using congrArg Array.toList h1
  have inj : ∀ {l m : List Char}, l.map Char.toNat = m.map Char.toNat → l = m := by
    intro l
    induction l with
    | nil => intro m e; cases m with
      | nil => rfl
      | cons => cases e
    | cons c l ih => intro m e; cases m with
      | nil => cases e
      | cons d m =>
        rw [List.map_cons, List.map_cons, List.cons.injEq] at e
        have hc : c = d := by
          apply Char.ext
          apply UInt32.toNat_inj.mp
          exact e.1
        rw [hc, ih e.2]
  exact String.toList_inj.mp (inj h2)
/-- n values, keywords ks: the parameters are picked by js out of values, defaults, keywords -/
def Bs (K : PySem.W.Frag) (x q : Str) (st : Stmt) (dvs : List V) (kvs : List (Str × V)) (dds : List V) (ps : List Str) (n : Nat) (ks : List Str) (js : List Nat) : Prop :=
  ∀ a fd, FunD K x q (defArgs st) (defBody st) (defScope st) dvs kvs a fd → ∃ g, KBn K fd ps n ks g (fun vs zs => perm js (vs ++ dds ++ zs))
theorem bs_0 {K : PySem.W.Frag} {x q : Str} {st : Stmt} {kvs : List (Str × V)} {ps : List Str} {n : Nat} {ks : List Str} {js : List Nat}
    (hb : ∀ (kV doc pm : Value) (an : Option Addr) (cdv ct : Value) (us ws : List Value), us.length = n → ws.length = ks.length → bindArgs (PySem.W.fnOf x q (defArgs st) (defBody st) (defScope st) .none kV doc pm an cdv ct) ⟨us, ks.zip ws⟩ = pure (ps.zip (perm js (us ++ ws)))) :
    Bs K x q st [] kvs [] ps n ks js := fun a fd FD => by
  obtain ⟨oc, od, dV, kV, doc, pm, an, cdv, ct, osl, e, lk, hcd, hD, hK⟩ := FD.ex
  refine ⟨fun us ws => perm js (us ++ ws), ?_⟩
  rcases hD with ⟨_, rfl⟩ | ⟨z, _⟩
  · refine ⟨fun s us ws _ h1 h2 => ?_, fun r1 r2 => ?_⟩
    · subst e
      exact .of_eq (hb kV doc pm an cdv ct us ws h1 h2)
    · rw [List.append_nil]
      exact perm_rel (r1.append r2) js
  · exact absurd rfl z
theorem bs_D {K : PySem.W.Frag} {x q : Str} {st : Stmt} {dvs : List V} {kvs : List (Str × V)} {ps : List Str} {n : Nat} {ks : List Str} {js : List Nat} (hd : dvs ≠ [])
    (hb : ∀ (T : Addr) (kV doc pm : Value) (an : Option Addr) (cdv ct : Value) (us its ws : List Value), us.length = n → its.length = dvs.length → ws.length = ks.length →
      ∃ k, bindArgs (PySem.W.fnOf x q (defArgs st) (defBody st) (defScope st) (.ref T) kV doc pm an cdv ct) ⟨us, ks.zip ws⟩ = seqItems? (.ref T) >>= k ∧ k (some its.toArray) = pure (ps.zip (perm js (us ++ its ++ ws)))) :
    Bs K x q st dvs kvs dvs ps n ks js := fun a fd FD => by
  obtain ⟨its, h⟩ := FD.kbindsD n ks (fun us its ws => perm js (us ++ its ++ ws)) hd (fun r1 r2 r3 => perm_rel ((r1.append r2).append r3) js) hb
  exact ⟨_, h⟩
section
variable {X : Cx} {CX : CXT} {k n : Nat} {f a : Addr} {fd : FuncData} {x q m : Str} {st : Stmt} {dvs dds : List V} {kvs : List (Str × V)} {ps ks : List Str} {sp : Sp} {E : L2.St → XK} {p pos apos : Pos} {o : Expr} {es : List Expr} {kws : List Keyword} {ta : TE} {t tk : TA} {js : List Nat} {pins : List (Addr × Obj)} {σ : L2.St} {H : Hp} {s : Shared}
/-- the first argument is no star -/
def StarOk (X : Cx) : List Expr → Prop
  | [] => True
  | e :: r => starEach (e :: r) X.env = (false, eval e X.env) :: starEach r X.env
theorem callWith_any {fv : Value} {first : List Value} {Q : Value → Shared → Prop} {R : List V → List V → Hp → Prop} (hk : PySem.W.keepIn X.K fv = true) (ha : PA X es t) (hkw : PK X kws tk) (hn : es = [] → t = tNil) (hse : StarOk X es)
    (hall : (backToKw pos (keywordEach kws X.env)).all (·.1.isSome) = true) (hks : (backToKw pos (keywordEach kws X.env)).filterMap (·.1) = ks)
    (hpl : ((backTo pos (starEach es X.env)).any (·.1) || (backToKw pos (keywordEach kws X.env)).any (·.1.isNone)) = false) (I : Inv X pins σ H s) (h : t σ H fun vs H1 => tk σ H1 fun zs H2 => R vs zs H2)
    (g : ∀ us vs ws zs s2 H2, Inv X pins σ H2 s2 → Vals vs us → Vals zs ws → R vs zs H2 → wpAny (model X.prog X.w) X.A (call fv (first ++ us) (ks.zip ws)) Q X.xe s2) :
    wpAny (model X.prog X.w) X.A (callWith pos fv first (backTo pos (starEach es X.env)) (backToKw pos (keywordEach kws X.env))) Q X.xe s := by
  cases es with
  | nil =>
    obtain rfl := hn rfl
    refine PySem.W.callWith_KW0 (h₀ := X.base) I.ok.mod.kin hk hall (thn (hkw.run pos pins s σ H _ I h) fun ws s2 ⟨zs, H2, I2, rz, r2⟩ => ⟨I2.kIn, ?_⟩) hpl
    rw [hks]
    exact g [] [] ws zs s2 H2 I2 .nil rz r2
  | cons e es =>
    refine PySem.W.callWith_KW (h₀ := X.base) I.ok.mod.kin hk hall (thn (ha.run pos pins s σ H _ I h) fun us s1 ⟨vs, H1, I1, r, q1⟩ => ?_) hpl hse
    refine thn (hkw.run pos pins s1 σ H1 _ I1 q1) fun ws s2 ⟨zs, H2, I2, rz, r2⟩ => ⟨I2.kIn, ?_⟩
    rw [hks]
    exact g us vs ws zs s2 H2 I2 r rz r2
theorem run_P {Q : VK} {us ws : List Value} {vs zs : List V} (F : CalF X.prog X.w X.K X.mg X.base CX k a x q st dvs kvs ps sp) (hr : Room k X.A) (hb : Bs X.K x q st dvs kvs dds ps n ks js) (hx : PassesAt CX X σ (E σ))
    (I : Inv X pins σ H s) (r : Vals vs us) (rz : Vals zs ws) (l1 : vs.length = n) (l2 : zs.length = ks.length) (h : sp (perm js (vs ++ dds ++ zs)) H Q (E σ)) : wpAny (model X.prog X.w) X.A (call (.ref a) us (ks.zip ws)) (EP X pins σ Q) X.xe s := by
  obtain ⟨fd, F, FD⟩ := F.ex
  obtain ⟨g, hb⟩ := hb a fd FD
  refine wpAny_call (codeAny_mono (F.run X.A X.stack s H ⟨us, ks.zip ws⟩ (g us ws) (perm js (vs ++ dds ++ zs)) Q (E σ) hr I.env0 (hb.to s us ws I.kIn (r.length.symm.trans l1) (rz.length.symm.trans l2)) (hb.rel r rz) h) fun res s' hq => ?_)
  cases res with
  | error er => exact hx pins H s er s' I hq
  | ok fl =>
    cases fl with
    | ret u => exact I.after hq
    | next => exact hq.elim
    | brk => exact hq.elim
    | cont => exact hq.elim
theorem run_makeP {C : Addr} {Q : VK} {us ws : List Value} {vs zs : List V} (M : Mk X.K C a) (F : CalF X.prog X.w X.K X.mg X.base CX k a x q st dvs kvs ps sp) (hr : Room (k + 1) X.A) (hb : Bs X.K x q st dvs kvs dds ps (n + 1) ks js) (hx : PassesAt CX X σ (E σ))
    (I : Inv X pins σ H s) (r : Vals vs us) (rz : Vals zs ws) (l1 : vs.length = n) (l2 : zs.length = ks.length)
    (h : ∀ y dy, H y = none → H dy = none → dy ≠ y → sp (perm js ((.ref y :: vs) ++ dds ++ zs)) (upd (upd H dy (.own y)) y (.ins C dy [])) (fun v H2 => v = .non ∧ Q (.ref y) H2) (E σ)) :
    wpAny (model X.prog X.w) X.A (call (.ref C) us (ks.zip ws)) (EP X pins σ Q) X.xe s := by
  obtain ⟨fd, F, FD⟩ := F.ex
  obtain ⟨g, hb⟩ := hb a fd FD
  have hq := h (s.heap.objs.size + 1) s.heap.objs.size (I.hok.fresh (Nat.le_succ _)) (I.hok.fresh (Nat.le_refl _)) (Nat.ne_of_lt (Nat.lt_succ_self _))
  have I2 := Inv.made (C := C) I
  have r1 : Vals (V.ref (s.heap.objs.size + 1) :: vs) (Value.ref (s.heap.objs.size + 1) :: us) := .cons rfl r
  have e1 : (Value.ref (s.heap.objs.size + 1) :: us).length = n + 1 := r1.length.symm.trans (congrArg Nat.succ l1)
  refine wpAny_call (make_map (f := a) I.kIn M.makes M.init (beq_iff_eq.mp M.fn) (codeAny_mono (F.run _ X.stack _ _ ⟨Value.ref (s.heap.objs.size + 1) :: us, ks.zip ws⟩ _ _ _ (E σ) (hr.make C us (ks.zip ws))
    (I2.env0.make C us (ks.zip ws)) (hb.to _ (Value.ref (s.heap.objs.size + 1) :: us) ws I2.kIn e1 (rz.length.symm.trans l2)) (hb.rel r1 rz) hq) fun res s' hq' => ?_))
  cases res with
  | error er => exact hx pins _ _ er s' I2 hq'
  | ok fl =>
    cases fl with
    | ret u =>
      obtain ⟨v, H', I3, rv, ev, q3⟩ := I2.after hq'
      subst ev
      exact ⟨rv, ⟨V.ref (s.heap.objs.size + 1), H', I3, rfl, q3⟩⟩
    | next => exact hq'.elim
    | brk => exact hq'.elim
    | cont => exact hq'.elim
/-- C(..); tf: the class -/
def tMakeP (C : Addr) (n m : Nat) (sp : Sp) (js : List Nat) (dvs : List V) (E : L2.St → XK) (tf : TE) (t tk : TA) : TE := fun σ H Q => tf σ H fun c H0 => c = .ref C ∧ t σ H0 fun vs H1 => tk σ H1 fun zs H2 => vs.length = n ∧ zs.length = m ∧
  ∀ y dy, H2 y = none → H2 dy = none → dy ≠ y → sp (perm js ((.ref y :: vs) ++ dvs ++ zs)) (upd (upd H2 dy (.own y)) y (.ins C dy [])) (fun v H3 => v = .non ∧ Q (.ref y) H3) (E σ)
theorem pe_makeP {C : Addr} {g : Str} {tf : TE} (M : Mk X.K C a) (F : CalF X.prog X.w X.K X.mg X.base CX k a x q st dvs kvs ps sp) (hr : Room (k + 1) X.A) (hb : Bs X.K x q st dvs kvs dds ps (n + 1) ks js) (hx : ∀ σ, PassesAt CX X σ (E σ)) (hf : PE X (.Name g p) tf) (ha : PA X es t) (hkw : PK X kws tk)
    (hn : es = [] → t = tNil := by intro z; first | rfl | cases z) (hse : StarOk X es := by first | exact trivial | rfl) (hall : (backToKw pos (keywordEach kws X.env)).all (·.1.isSome) = true := by rfl)
    (hks : (backToKw pos (keywordEach kws X.env)).filterMap (·.1) = ks := by rfl)
    (hpl : ((backTo pos (starEach es X.env)).any (·.1) || (backToKw pos (keywordEach kws X.env)).any (·.1.isNone)) = false := by rfl) : PE X (.Call (.Name g p) es kws pos) (tMakeP C n ks.length sp js dds E tf t tk) := by
  refine ⟨fun pins s σ H Q I h => wpAny_Call_Name_kw (thn (hf.run pins s σ H _ I h) fun u s0 ⟨c, H0, I0, rc, ec, q0⟩ => ?_)⟩
  subst ec
  obtain rfl : u = Value.ref C := rc
  exact callWith_any M.kp ha hkw hn hse hall hks hpl I0 q0 fun us vs ws zs s2 H2 I2 r rz ⟨l1, l2, q2⟩ => run_makeP M F hr hb (hx σ) I2 r rz l1 l2 q2
/-- o.m(..), o an instance of one of some classes that have the def at a as their m -/
def tMethP (K : PySem.W.Frag) (m : Str) (a : Addr) (n mm : Nat) (sp : Sp) (js : List Nat) (dvs : List V) (E : L2.St → XK) (ta : TE) (t tk : TA) : TE := fun σ H Q => ta σ H fun y H0 => ∃ b C dx fs, y = .ref b ∧ H0 b = some (.ins C dx fs) ∧ Cls K C ∧ Meth K C m a ∧ fs.lookup m = none ∧
  t σ H0 fun vs H1 => tk σ H1 fun zs H2 => vs.length = n ∧ zs.length = mm ∧ sp (perm js ((y :: vs) ++ dvs ++ zs)) H2 Q (E σ)
theorem pe_methP {K : PySem.W.Frag} {pl : Sem Bool} (he : PE X o ta) (F : CalF X.prog X.w X.K X.mg X.base CX k a x q st dvs kvs ps sp) (hr : Room k X.A) (hb : Bs X.K x q st dvs kvs dds ps (n + 1) ks js) (hx : ∀ σ, PassesAt CX X σ (E σ)) (ha : PA X es t) (hkw : PK X kws tk)
    (hn : es = [] → t = tNil := by intro z; first | rfl | cases z) (hse : StarOk X es := by first | exact trivial | rfl) (hall : (backToKw pos (keywordEach kws X.env)).all (·.1.isSome) = true := by rfl)
    (hks : (backToKw pos (keywordEach kws X.env)).filterMap (·.1) = ks := by rfl)
    (hpl : ((backTo pos (starEach es X.env)).any (·.1) || (backToKw pos (keywordEach kws X.env)).any (·.1.isNone)) = false := by rfl)
    (ht : eval (.Call (.Attribute o m apos) es kws pos) X.env = (do
      let ov ← eval o X.env
      standAt apos.atName
      let (f, first) ← holding [ov] (getMethod ov m pl)
      callWith pos f first (backTo pos (starEach es X.env)) (backToKw pos (keywordEach kws X.env))) := by rfl) (hK : X.K = K := by rfl) :
    PE X (.Call (.Attribute o m apos) es kws pos) (tMethP K m a n ks.length sp js dds E ta t tk) := by
  subst hK
  refine ⟨fun pins s σ H Q I h => ?_⟩
  refine PySem.W.methodCall_KW (pl := pl) (thn (he.run pins s σ H _ I h) fun u s1 ⟨y, H1, I1, ry, b, C, dx, fs, ey, eb, c, hm, l, q1⟩ => ?_) ht
  subst ey
  obtain rfl : u = Value.ref b := ry
  refine getmeth_ok I1 eb c hm l ?_
  exact callWith_any hm.kp ha hkw hn hse hall hks hpl I1 q1 fun us vs ws zs s2 H2 I2 r rz ⟨l1, l2, q2⟩ => run_P (us := .ref b :: us) (vs := .ref b :: vs) F hr hb (hx σ) I2 (.cons rfl r) rz (congrArg Nat.succ l1) l2 q2
/-- o.f, a property -/
def tPropP (K : PySem.W.Frag) (f : Str) (a : Addr) (sp : Sp) (E : L2.St → XK) (ta : TE) : TE := fun σ H Q => ta σ H fun y H0 => ∃ b C dx fs p, y = .ref b ∧ H0 b = some (.ins C dx fs) ∧ Cls K C ∧ PropOf K C f p a ∧ sp [y] H0 Q (E σ)
theorem getprop_P {C dx b pp : Addr} {fs : List (Str × V)} {f : Str} {Q : VK} {bb : Bool} (I : Inv X pins σ H s) (eb : H b = some (.ins C dx fs)) (c : Cls X.K C) (hp : PropOf X.K C f pp a) (F : CalF X.prog X.w X.K X.mg X.base CX0 k a x q st dvs kvs ps sp) (hr : Room (k + 1) X.A)
    (hb : Bs X.K x q st dvs kvs dds ps 1 [] [0]) (h : sp [.ref b] H Q (E σ)) : wpAny (model X.prog X.w) X.A (getAttr (.ref b) f bb) (EP X pins σ Q) X.xe s := by
  obtain ⟨fd, F, FD⟩ := F.ex
  obtain ⟨g, hb⟩ := hb a fd FD
  obtain ⟨mA, O, _, _, _, _⟩ := ins_get I.hok eb
  obtain ⟨od, J, _⟩ := O.look
  obtain ⟨rest, hrec⟩ := hp.rec_
  have I1 := I.tok (s.toks + 1)
  have hc : (PySem.W.clsIn X.K C).isSome = true := by
    obtain ⟨cd, hc, _⟩ := PySem.W.any_some c.hd
    rw [hc]
    rfl
  have rr : Vals [V.ref b] [Value.ref b] := .cons rfl .nil
  have r2 := hb.rel rr .nil
  rw [show perm [0] ([V.ref b] ++ dds ++ []) = [V.ref b] from rfl] at r2
  refine PySem.W.get_bind I.kIn J (PySem.W.plainGet_of (c.get f)).1 (PySem.W.findObj_data hc hp.at_ hp.get hp.tak) (PySem.W.plainGet_of (c.get f)).2 (wpAny_call (PySem.W.prop_get (s := { s with toks := s.toks + 1 }) I.kIn hrec ?_))
  refine codeAny_mono (F.run X.A.in1 X.stack { s with toks := s.toks + 1 } H ⟨[.ref b], []⟩ (g [.ref b] []) [.ref b] Q (E σ) hr.in1 I1.env0.in1 (hb.to _ [.ref b] [] I1.kIn rfl rfl) r2 h) fun res s' hq => ?_
  cases res with
  | error er => exact hq.elim
  | ok fl =>
    cases fl with
    | ret u =>
      obtain ⟨v, H', I3, rv, q3⟩ := I1.after hq
      show wpAny _ _ (handedOut u) _ _ _
      rw [PySem.W.handedOut_of (handed_of rv)]
      exact wpAny_pure ⟨v, H', I3, rv, q3⟩
    | next => exact hq.elim
    | brk => exact hq.elim
    | cont => exact hq.elim
theorem pe_propP {K : PySem.W.Frag} {e : Expr} {f : Str} (he : PE X e ta) (F : CalF X.prog X.w X.K X.mg X.base CX0 k a x q st dvs kvs ps sp) (hr : Room (k + 1) X.A) (hb : Bs X.K x q st dvs kvs dds ps 1 [] [0])
    (hab : attributeBase e f X.env (eval e X.env) = eval e X.env := by rfl) (hK : X.K = K := by rfl) : PE X (.Attribute e f pos) (tPropP K f a sp E ta) := by
  subst hK
  refine ⟨fun pins s σ H Q I h => ?_⟩
  refine attr_of hab (thn (he.run pins s σ H _ I h) fun u s1 ⟨y, H1, I1, ry, b, C, dx, fs, pp, ey, eb, c, hp, q1⟩ => ?_)
  subst ey
  obtain rfl : u = Value.ref b := ry
  exact getprop_P (E := E) I1 eb c hp F hr hb q1
end
theorem pe_fldK {X : Cx} {K : PySem.W.Frag} {e : Expr} {f : Str} {pos : Pos} {ta : TE} (he : PE X e ta) (hb : attributeBase e f X.env (eval e X.env) = eval e X.env := by rfl) (hK : X.K = K := by rfl) : PE X (.Attribute e f pos) (tFld K ta f) := hK ▸ pe_fld he hb
end My
namespace My
open PySem PySem.Spec PyProof.Rows L2 PySem.W
section
variable {prog : Program} {w : World} {A : Around} {E : Value → Shared → Prop} {s : Shared} {K : Frag} {x C f : Addr} {ox : Obj} {od : Option Obj} {b tb : Value}
theorem bound_blt {M : Model} {name : Str} {id : String} {args : List Value} {Q : Option Value → Shared → Prop} (X : K.In s.heap) (I : InstAt s.heap x ox C od) (hs : findIn K (.ref C) name = some (some (.builtin id))) (S : Slot "object" name id)
    (h : wpAny M A (call (.builtin id) (.ref x :: args)) (fun v => Q (some v)) E s) : wpAny M A (callSpecialIfBound? (.ref x) name args) Q E s := by
  simp only [callSpecialIfBound?, bindSpecialIfBound?]
  refine wpAny_holding (wpAny_bind (wpAny_bind (wpAny_bind (I.type.here ((looks_findIn X hs).here ?_)))))
  simp only [S.bind]
  refine wpAny_bind (wpAny_askSetting (wpAny_ite ?_))
  have fin : wpAny M A (call (.builtin id) ([.ref x] ++ args) >>= fun v => pure (some v)) Q E s := wpAny_bind (wpAny_mono h (fun v s' h' => wpAny_pure h') fun _ _ h' => h')
  split
  · exact wpAny_bind (wpAny_pure (wpAny_pure fin))
  · exact wpAny_tryCatch (wpAny_bind (wpAny_pure (wpAny_pure fin)))
theorem check_slotK {M : Model} {id owner n : String} {rest : List Value} {Q : Unit → Shared → Prop} (X : K.In s.heap) (I : InstAt s.heap x ox C od) (hk : builtinKind id = some .slot) (hsp : splitId id = some (owner, n)) (ha : argsOk id ⟨.ref x :: rest, []⟩) (ho : subIn K (.ref C) (.type owner) = some true)
    (hq : Q () s) : wpAny M A (checkBuiltinCall id ⟨.ref x :: rest, []⟩) Q E s := by
  simp only [checkBuiltinCall, hk, hsp]
  refine wpAny_bind ?_
  · have LI : Looks M s.heap (isInstance (.ref x) (.type owner)) true := I.type.andThen (looks_subIn X ho)
    refine LI.here ?_
    try simp only [if_true]
    cases hsig : Manifest.signature? id with
    | none =>
      first | exact wpAny_pure hq | exact hq
    | some sig =>
      simp only [argsOk, hsig] at ha
      have h2 : Bind.checkArgs id sig ⟨.ref x :: rest, []⟩ = pure () := ha
      show wpAny M A (Bind.checkArgs id sig ⟨.ref x :: rest, []⟩) Q E _
      rw [h2]; exact wpAny_pure hq
theorem ne_own {Q : Value → Shared → Prop} (hu : A.units + 1 < cLine) (X : K.In s.heap) (I : InstAt s.heap x ox C od) (hb : Looks (model prog w) s.heap (typeOf b) tb) (hn : notFirst K C tb = true)
    (hs : findIn K (.ref C) "__ne__" = some (some (.builtin "object.__ne__"))) (ho : subIn K (.ref C) (.type "object") = some true) (he : findIn K (.ref C) "__eq__" = some (some (.ref f))) (hf : isFn K (.ref f) = true)
    (h : wpAny (model prog w) A.in1 (call (.ref f) [.ref x, b]) (fun v s' => ∃ c, v = .bool c ∧ Q (.bool (!c)) s') E s) : wpAny (model prog w) A (richCompare .NotEq (.ref x) b) Q E s := by
  have body : wpAny (model prog w) A.in1 (Builtin.«object.__ne__» ⟨[.ref x, b], []⟩) (fun r s' => ∃ c, r = .done (.ret (.bool (!c))) ∧ Q (.bool (!c)) s') E s := by
    unfold Builtin.«object.__ne__»
    repeat (first
      | with_reducible refine wpAny_cRoomFor (show A.in1.units < cLine from hu) ?_
      | (refine wpAny_bind (m := callSpecialIfBound? (.ref x) (Str.ofString "__eq__") [b])
          (ifBound_K X I he hf (wpAny_mono h (fun r s' hr => by
            obtain ⟨c, rfl, hq⟩ := hr
            repeat (first | exact ⟨c, rfl, hq⟩ | exact wpAny_pure ⟨c, rfl, hq⟩ | exact wpAny_truthy_bool ⟨c, rfl, hq⟩ | (refine wpAny_bind (m := truthy (.bool _)) (wpAny_truthy_bool ?_)) | wp_step)) fun _ _ e => e)))
      | wp_step)
  have one : wpAny (model prog w) A (tryCompare (.ref x) "__ne__" b) (fun r s' => ∃ v, r = some v ∧ Q v s') E s := by
    unfold tryCompare
    refine wpAny_bind (bound_blt X I hs F.cmp_object.ne (wpAny_call (codeAny_call_builtin F.cmp_object.ne.plain F.cmpEntry_ne (check_slotK X I F.cmpKind_ne F.cmpSplit_ne (F.cmpArgs_ne _ _) ho (wpAny_mono body (fun r s' hr => ?_) fun _ _ e => e)))))
    obtain ⟨c, rfl, hq⟩ := hr
    first | exact wpAny_pure ⟨_, rfl, hq⟩ | exact ⟨_, rfl, hq⟩
  unfold richCompare
  simp only [oneThing_ref]
  refine wpAny_holding (wpAny_bind (wpAny_cRoomFor (Nat.lt_of_succ_lt hu) ?_))
  rw [cmpInfo_NotEq]
  dsimp only
  refine wpAny_bind (I.type.here (wpAny_bind (hb.here ?_)))
  split
  · rename_i q
    have e : subIn K tb (.ref C) = some false := by
      rcases Bool.or_eq_true_iff.mp hn with e | e
      · rw [beq_iff_eq.mp e] at q; simp at q
      · exact beq_iff_eq.mp e
    refine wpAny_bind ((looks_subIn X e).here ?_)
    simp only [Bool.false_eq_true, if_false]
    refine wpAny_bind (wpAny_mono one (fun r s' z => ?_) fun _ _ e => e)
    obtain ⟨v, rfl, hq⟩ := z
    exact wpAny_pure hq
  · refine wpAny_bind (wpAny_pure ?_)
    simp only [Bool.false_eq_true, if_false]
    refine wpAny_bind (wpAny_mono one (fun r s' z => ?_) fun _ _ e => e)
    obtain ⟨v, rfl, hq⟩ := z
    exact wpAny_pure hq
end
end My
namespace My
open PySem PySem.Spec PyProof.Rows L2
section
variable {P : Program} {w : World} {K : PySem.W.Frag} {mg : Str → Option Value} {base : Heap} {CX : CXT} {k : Nat} {a : Addr} {x q : Str} {st : Stmt} {dvs dds : List V} {kvs : List (Str × V)} {ps : List Str} {sp : Sp}
/-- two parameters, by their places -/
theorem CalF.raw2 {p1 p2 : Str} (C : CalF P w K mg base CX k a x q st dvs kvs [p1, p2] sp) (hb : Bs K x q st dvs kvs dds [p1, p2] 2 [] [0, 1]) : FnR P w K mg base CX k a sp := by
  obtain ⟨fd, F, FD⟩ := C.ex
  obtain ⟨g, hb⟩ := hb a fd FD
  intro A outer s H us vs Q E hr e0 r hs
  have hl := F.len _ _ _ _ hs
  match vs, hl, r, hs with
  | [v1, v2], _, r, hs =>
    have r2 := hb.rel r .nil
    rw [show perm [0, 1] ([v1, v2] ++ dds ++ []) = [v1, v2] from rfl] at r2
    exact F.run A outer s H ⟨us, []⟩ (g us []) [v1, v2] Q E hr e0 (hb.to s us [] (e0.mod.kin.keeps fun b o e => (e0.bs b o e).1) r.length.symm rfl) r2 hs
end
section
variable {X : Cx} {n : Nat} {l : List (Addr × Sp)}
def rEqO (K : PySem.W.Frag) (l : List (Addr × Sp)) : R2 := fun x y H Q => ∃ a C dx vs b C' dy ws g sp, x = .ref a ∧ y = .ref b ∧ H a = some (.ins C dx vs) ∧ H b = some (.ins C' dy ws) ∧ PySem.W.notFirst K C (.ref C') = true ∧
  PySem.W.findIn K (.ref C) "__eq__" = some (some (.ref g)) ∧ PySem.W.isFn K (.ref g) = true ∧ (g, sp) ∈ l ∧ sp [x, y] H Q E0
theorem op_eqO (F : ∀ p ∈ l, FnR X.prog X.w X.K X.mg X.base CX0 n p.1 p.2) (hr : Room n X.A) : OpR X (compareOp .Eq) (rEqO X.K l) := by
  intro pins s σ H x y v u Q I rx ry h
  obtain ⟨a, C, dx, vs, b, C', dy, ws, g, sp, rfl, rfl, ha, hb, hn, hs, hf, hl, q⟩ := h
  cases (show v = Value.ref a from rx)
  cases (show u = Value.ref b from ry)
  obtain ⟨od, J⟩ := ins_inst I ha
  obtain ⟨od', J'⟩ := ins_inst I hb
  obtain ⟨m, hF⟩ := I.fr
  rw [show compareOp .Eq (.ref a) (.ref b) = richCompare .Eq (.ref a) (.ref b) from rfl]
  refine PySem.W.cmp_K (op := .Eq) (tb := .ref C') hr.units0 hF I.ok.mod.kin J J'.type hn hs hf ?_
  refine wpAny_mono (wpAny_call (run_fnR (us := [.ref a, .ref b]) (vs := [.ref a, .ref b]) (F _ hl) hr pass0 I (.cons rfl (.cons rfl .nil)) q)) (fun w s' z => ?_) fun _ _ x => x
  obtain ⟨z', H', I', rz, qz⟩ := z
  exact SlX.cmpback rz ⟨z', H', I', rz, qz⟩
def rNeO (K : PySem.W.Frag) (l : List (Addr × Sp)) : R2 := fun x y H Q => ∃ a C dx vs b C' dy ws g sp, x = .ref a ∧ y = .ref b ∧ H a = some (.ins C dx vs) ∧ H b = some (.ins C' dy ws) ∧ PySem.W.notFirst K C (.ref C') = true ∧
  PySem.W.findIn K (.ref C) "__ne__" = some (some (.builtin "object.__ne__")) ∧ PySem.W.subIn K (.ref C) (.type "object") = some true ∧
  PySem.W.findIn K (.ref C) "__eq__" = some (some (.ref g)) ∧ PySem.W.isFn K (.ref g) = true ∧ (g, sp) ∈ l ∧ sp [x, y] H (fun z H' => ∃ c, z = .bl c ∧ Q (.bl (!c)) H') E0
theorem op_neO (F : ∀ p ∈ l, FnR X.prog X.w X.K X.mg X.base CX0 n p.1 p.2) (hr : Room (n + 1) X.A) : OpR X (compareOp .NotEq) (rNeO X.K l) := by
  intro pins s σ H x y v u Q I rx ry h
  obtain ⟨a, C, dx, vs, b, C', dy, ws, g, sp, rfl, rfl, ha, hb, hn, hs, ho, he, hf, hl, q⟩ := h
  cases (show v = Value.ref a from rx)
  cases (show u = Value.ref b from ry)
  obtain ⟨od, J⟩ := ins_inst I ha
  obtain ⟨od', J'⟩ := ins_inst I hb
  rw [show compareOp .NotEq (.ref a) (.ref b) = richCompare .NotEq (.ref a) (.ref b) from rfl]
  refine ne_own (tb := .ref C') (by have := hr.un; omega) I.kIn J J'.type hn hs ho he hf ?_
  refine wpAny_call (codeAny_mono (F _ hl X.A.in1 X.stack s H [.ref a, .ref b] [.ref a, .ref b] _ E0 hr.in1 I.env0.in1 (.cons rfl (.cons rfl .nil)) q) fun res s' hq => ?_)
  cases res with
  | error er => exact hq.elim
  | ok fl =>
    cases fl with
    | ret u =>
      obtain ⟨z', H', I', rz, c, rfl, qz⟩ := I.after hq
      cases (show u = Value.bool c from rz)
      exact ⟨c, rfl, .bl (!c), H', I', rfl, qz⟩
    | next => exact hq.elim
    | brk => exact hq.elim
    | cont => exact hq.elim
def rEqA (K : PySem.W.Frag) (l : List (Addr × Sp)) : R2 := fun x y H Q => rEqU K x y H Q ∨ rEqO K l x y H Q
def rNeA (K : PySem.W.Frag) (l : List (Addr × Sp)) : R2 := fun x y H Q => rNeU K x y H Q ∨ rNeO K l x y H Q
theorem cm_EqA {K : PySem.W.Frag} (F : ∀ p ∈ l, FnR X.prog X.w X.K X.mg X.base CX0 n p.1 p.2) (hr : Room n X.A) (hK : X.K = K := by rfl) : OpR X (compareOp .Eq) (rEqA K l) := hK ▸ (cm_Eq hr.units).or (op_eqO F hr)
theorem cm_NeA {K : PySem.W.Frag} (F : ∀ p ∈ l, FnR X.prog X.w X.K X.mg X.base CX0 n p.1 p.2) (hr : Room (n + 1) X.A) (hK : X.K = K := by rfl) : OpR X (compareOp .NotEq) (rNeA K l) := hK ▸ (cm_NotEq hr.units).or (op_neO F hr)
end
def rSlV (K : PySem.W.Frag) : V → Option Int → Option Int → Hp → VK → Prop := fun x lo hi H Q => rSlU K x lo hi H Q ∨ rSlA K x lo hi H Q
theorem sl_all {X : Cx} {K : PySem.W.Frag} (hK : X.K = K := by rfl) : SlR X (rSlV K) := hK ▸ (sl_any (X := X)).or sl_tupA
end My
namespace My
open PySem PySem.Spec PyProof.Rows L2
section
variable {prog : Program} {w : World} {A : Around} {E : Value → Shared → Prop} {s : Shared}
theorem back_places (n : Nat) : Builtin.Slice.slicePlaces ((n : Int) - 1) (-1) (-1) = n := by
  unfold Builtin.Slice.slicePlaces
  have h1 : ¬ ((-1 : Int) > 0) := by omega
  simp only [h1, if_false]
  split
  · have e : ((n : Int) - 1 - -1 - 1) / (- -1) = (n : Int) - 1 := by
      rw [show (- -1 : Int) = 1 by decide, Int.ediv_one]
      omega
    rw [e]
    omega
  · omega
theorem back_pick (xs : Array Value) : ((List.range xs.size).filterMap fun (m : Nat) => xs[(((xs.size : Nat) : Int) - 1 + (m : Int) * -1).toNat]?).toArray = xs.toList.reverse.toArray := by
  congr 1
  have h1 : (List.range xs.size).filterMap (fun (m : Nat) => xs[(((xs.size : Nat) : Int) - 1 + (m : Int) * -1).toNat]?) = ((List.range xs.size).map fun k => xs.size - 1 - k).filterMap (xs[·]?) := by
    rw [List.filterMap_map]
    have cg : ∀ (l : List Nat) (f g : Nat → Option Value), (∀ k ∈ l, f k = g k) → l.filterMap f = l.filterMap g := by
      intro l f g hl
      induction l with
      | nil => rfl
      | cons k l ih =>
        rw [List.filterMap_cons, List.filterMap_cons, hl k List.mem_cons_self, ih fun j hj => hl j (List.mem_cons_of_mem _ hj)]
    apply cg
    intro k hk
    have := List.mem_range.mp hk
    show xs[(((xs.size : Nat) : Int) - 1 + (k : Int) * -1).toNat]? = xs[xs.size - 1 - k]?
    congr 1
    omega
  rw [h1, PySem.W.krv_range, List.filterMap_reverse, PySem.W.krv_all]
theorem applied_back {sl : Addr} {vl vu vs : Value} {n : Nat} {Q : Int × Int × Nat → Shared → Prop} (hs : s.heap.IsSliceOf sl vl vu vs) (pl : IsPart vl none) (pu : IsPart vu none) (ps : IsPart vs (some (-1)))
    (h : Q ((n : Int) - 1, -1, n) s) : wpAny (model prog w) A (Builtin.Slice.sliceApplied (.ref sl) (pure (n : Int))) Q E s := by
  obtain ⟨os, hos, hcs, hds⟩ := id hs
  unfold Builtin.Slice.sliceApplied Builtin.Slice.sliceFields
  refine wpAny_bind (wpAny_bind (wpAny_field hos hds (x := vl) rfl (wpAny_bind (wpAny_field hos hds (x := vu) rfl (wpAny_bind (wpAny_field hos hds (x := vs) rfl (wpAny_pure ?_)))))))
  refine wpAny_bind (HT.slicePart_ ps ?_)
  show wpAny _ _ (if ((-1 : Int) == 0) = true then _ else _) _ _ s
  rw [if_neg (by decide)]
  refine wpAny_bind (HT.slicePart_ pl (wpAny_bind (HT.slicePart_ pu (wpAny_bind (wpAny_pure ?_)))))
  show wpAny _ _ (pure ((n : Int) - 1, (-1 : Int), Builtin.Slice.slicePlaces ((n : Int) - 1) (-1) (-1))) _ _ s
  rw [back_places]
  exact wpAny_pure h
theorem item_back {t sl : Addr} {items : Array Value} {vl vu vs : Value} {Q : Value → Shared → Prop} (ht : IsTup s.heap t items) (hs : s.heap.IsSliceOf sl vl vu vs) (pl : IsPart vl none) (pu : IsPart vu none) (ps : IsPart vs (some (-1)))
    (h : Q (.ref s.heap.objs.size) { s with heap := s.heap.push { cls := .type "tuple", data := .seq items.toList.reverse.toArray } }) (hsz : items.size ≤ sizeLine) : wpAny (model prog w) A (getItem (.ref t) (.ref sl)) Q E s := by
  have htake : sizeOk (.seq items.toList.reverse.toArray) := by
    show items.toList.reverse.toArray.size ≤ sizeLine
    rw [List.size_toArray, List.length_reverse, Array.length_toList]
    exact hsz
  obtain ⟨os, hos, hcs, hds⟩ := id hs
  have hTs : s.TypeIs (.ref sl) "slice" := ⟨os, hos, hcs⟩
  unfold getItem
  try with_reducible refine wpAny_holding ?_
  first | refine wpAny_bind (wpAny_pure ?_) | skip
  refine wpAny_bind (wpAny_sequenceKey ht.typeIs (by decide) ?_)
  refine wpAny_bind (wpAny_callSpecial?_slot (name := Str.ofString "__getitem__") ht.typeIs PyProof.Rows.slot_tuple_getitem
    (wpAny_call_entry PyProof.Rows.slot_tuple_getitem ht.typeIs entry_tuple_getitem ?_ (args_tuple_getitem _ _)))
  show wpAny _ _ (Builtin.Tuple.tupleItemsOf (.ref t) >>= _) _ _ s
  refine wpAny_bind (tupleItemsOf_ ht ?_)
  refine wpAny_bind (wpAny_typeOf hTs ?_)
  rw [if_pos (by decide)]
  refine wpAny_bind (applied_back (n := items.size) hs pl pu ps ?_)
  show wpAny _ _ (if ((((items.size : Nat) : Int) - 1) == 0 && (-1 : Int) == 1 && items.size == items.size) = true then _ else _) _ _ s
  rw [if_neg (by simp), back_pick]
  first
    | exact wpAny_bind (m := Builtin.Tuple.tupleExact _) (wpAny_newObj_type (wpAny_pure ⟨_, rfl, wpAny_pure h⟩) htake)
    | exact wpAny_bind (m := Builtin.Tuple.tupleExact _) (wpAny_newObj_type (wpAny_bind (wpAny_pure (wpAny_pure ⟨_, rfl, wpAny_pure h⟩))) htake)
    | exact wpAny_bind (wpAny_bind (m := Builtin.Tuple.tupleExact _) (wpAny_newObj_type (wpAny_pure (wpAny_pure ⟨_, rfl, wpAny_pure h⟩)) htake))
    | exact wpAny_bind (wpAny_bind (m := Builtin.Tuple.tupleExact _) (wpAny_newObj_type (wpAny_pure ⟨_, rfl, wpAny_pure h⟩) htake))
end
section
variable {X : Cx}
def tRevT (K : PySem.W.Frag) (te : TE) : TE := fun σ H Q => te σ H fun x H1 => ∃ a xs, x = .ref a ∧ SqT K H1 a xs ∧ ∀ p, H1 p = none → Q (.ref p) (upd H1 p (.tup xs.reverse))
theorem pe_revT {e : Expr} {te : TE} {k : Nat} {p1 p2 p3 pos : Pos} (he : PE X e te) : PE X (.Subscript e (.Slice none none (some (.UnaryOp .USub (.Constant (.int 1) k p1) p2)) p3) pos) (tRevT X.K te) := by
  refine ⟨fun pins s σ H Q I h => ?_⟩
  refine Subscript_ (thn (he.run pins s σ H _ I h) fun v s1 ⟨x, H1, I1, r1, q1⟩ => ?_)
  obtain ⟨a, xs, ex, hx, q⟩ := q1
  subst ex
  cases r1
  have hst : PO X (some (.UnaryOp .USub (.Constant (.int 1) k p1) p2)) (tPart (tUn (rU fun i => .int (-i)) (tC (.int 1)))) := po_some (pe_un un_neg pe_int)
  refine wpAny_Slice (thn (po_none.run pins s1 σ H1 (fun o H2 => o = none ∧ H2 = H1) I1 ⟨rfl, rfl⟩) fun vl s2 ⟨l, H2, I2, pl, el, e2⟩ => ?_)
  subst el e2
  refine thn (po_none.run pins s2 σ H2 (fun o H3 => o = none ∧ H3 = H2) I2 ⟨rfl, rfl⟩) fun vu s3 ⟨u, H3, I3, pu, eu, e3⟩ => ?_
  subst eu e3
  refine thn (hst.run pins s3 σ H3 (fun o H4 => o = some (-1) ∧ H4 = H3) I3 ⟨1, rfl, -1, rfl, rfl, rfl⟩) fun vs s4 ⟨o, H4, I4, ps, eo, e4⟩ => ?_
  subst eo e4
  have I5 : Inv X pins σ H4 { s4 with heap := s4.heap.push { cls := .type "slice", data := .fields #[vl, vu, vs] } } := I4.kept (t' := s4.toks) fun b ob q => Heap.get?_push_of_some _ q
  obtain ⟨its, r, ht, hz⟩ := I5.tuple hx
  have hlen := r.length
  refine tail_any (ops := [.ref a, .ref s4.heap.objs.size]) ht.typeIs PyProof.Rows.slot_tuple_getitem.lookup ?_ (by with_unfolding_all rfl)
  refine item_back ht (Heap.IsSliceOf.new _ vl vu vs) pl pu ps ?_ (by rw [List.size_toArray]; omega)
  refine ⟨.ref _, _, I5.laid (t' := s4.toks) (o := .tup xs.reverse) (fun b ob q => Heap.get?_push_of_some _ q) (Nat.le_refl _) ?_, rfl, q _ (I5.hok.fresh (Nat.le_refl _))⟩
  exact ⟨by rw [List.length_reverse]; exact hz, _, r.reverse, IsTup.new _ _⟩
def tRev (K : PySem.W.Frag) (te : TE) : TE := fun σ H Q => tRevL K te σ H Q ∨ tRevT K te σ H Q
theorem pe_rev {K : PySem.W.Frag} {e : Expr} {te : TE} {k : Nat} {p1 p2 p3 pos : Pos} (he : PE X e te) (hK : X.K = K := by rfl) : PE X (.Subscript e (.Slice none none (some (.UnaryOp .USub (.Constant (.int 1) k p1) p2)) p3) pos) (tRev K te) := hK ▸ PE_or (pe_revL he) (pe_revT he)
def rLtD (K : PySem.W.Frag) : R2 := fun x y H Q => ∃ a b, Dp K H x a ∧ Dp K H y b ∧ PySem.W.alike a b = true ∧ a ≠ .none ∧ min a.depth b.depth ≤ 8 ∧ Q (.bl (PySem.W.dataLt a b)) H
theorem op_ltD (hu : X.A.units + 64 < cLine) : OpR X (compareOp .Lt) (rLtD X.K) := by
  intro pins s σ H x y v u Q I rx ry h
  obtain ⟨a, b, da, db, ha, hn, hd, q⟩ := h
  obtain ⟨as, ra⟩ := Dp.reads I a x v da rx
  obtain ⟨bs, rb⟩ := Dp.reads I b y u db ry
  exact PySem.W.rcLt_alike a b X.A s v u as bs ra rb ha hn (by omega) X.prog X.w _ _ ⟨.bl (PySem.W.dataLt a b), H, I, rfl, q⟩
def rLtA (K : PySem.W.Frag) : R2 := fun x y H Q => rLtU x y H Q ∨ rLtD K x y H Q
theorem cm_LtA {K : PySem.W.Frag} (hu : X.A.units + 64 < cLine) (hK : X.K = K := by rfl) : OpR X (compareOp .Lt) (rLtA K) := hK ▸ (cm_Lt (X := X)).or (op_ltD hu)
end
end My
namespace My
open PySem PySem.Spec PyProof.Rows L2
theorem DefP.funD {K : PySem.W.Frag} {d : DefP} (hn : d.err = none) (e : fnP K (d.pa K) d.err.isSome = d.val) (c : d.ok K = true) : ∃ g, FunD K d.name d.qual d.params d.body d.scope (d.dvs K) (d.kws K) (d.pa K) g := by
  obtain ⟨kp, c2⟩ := He.ba c
  rw [hn] at e
  unfold fnP at e
  cases q : K.lookup (d.pa K) with
  | none =>
    rw [q] at c2
    cases c2
  | some o =>
    obtain ⟨oc, od, dt, osl⟩ := o
    rw [q] at c2 e
    cases dt with
    | func g =>
      obtain ⟨m1, m2, m3, m4, m5, m6, m7, m8, m9, m10, m11, m12, m13, m14, m15⟩ := g
      have e2 : (some (m1, m2, m3, m4, m5, m6, m7, m15) : He.FnW) = d.val := e
      unfold DefP.val at e2
      simp only [Option.some.injEq, Prod.mk.injEq] at e2
      obtain ⟨h1, h2, h3, h4, h5, h6, h7, h8⟩ := e2
      subst h1 h2 h3 h4 h5 h6 h7 h8
      obtain ⟨k1, k2⟩ := He.ba (show (PySem.W.codeIn K m13 d.qual && _) = true from c2)
      obtain ⟨k2, _⟩ := He.ba k2
      obtain ⟨k3, k4⟩ := He.ba k2
      exact ⟨_, ⟨oc, od, m8, m9, m10, m11, m12, m13, m14, osl, rfl, q, k1, He.dflB_ok k3, He.kwdB_ok k4⟩, kp⟩
    | _ => cases c2
theorem obsY_eq {n : Nat} {ex : PySem.W.Frag → Bool} {fn : List DefP} {g : Addr → Option Obj} {s : Shared} (h : ∀ a, g a = s.heap.get? a) : obsY n ex fn g = (hookY n ex fn).obs s := by
  have e : g = s.heap.get? := funext h
  rw [e] <;> rfl
theorem SaysY.more {ex : PySem.W.Frag → Bool} {fn : List DefP} {K : PySem.W.Frag} (c : SaysY ex fn K) : ex K = true := (He.ba (show (ex K && fn.all (fun d => d.ok K)) = true from congrArg (fun z : AlY => z.1) c.e)).1
theorem SaysY.obs_ {ex : PySem.W.Frag → Bool} {fn : List DefP} {K : PySem.W.Frag} (c : SaysY ex fn K) (i : Nat) {d : DefP} (h : fn[i]? = some d) : fnP K (d.pa K) d.err.isSome = d.val ∧ d.ok K = true := by
  have c2 := (He.ba (show (ex K && fn.all (fun d => d.ok K)) = true from congrArg (fun z : AlY => z.1) c.e)).2
  have e : fn.map (fun d => fnP K (d.pa K) d.err.isSome) = fn.map DefP.val := congrArg (fun z : AlY => z.2) c.e
  have e1 : (fn.map (fun d => fnP K (d.pa K) d.err.isSome))[i]? = (fn.map DefP.val)[i]? := by rw [e]
  rw [List.getElem?_map, List.getElem?_map, h] at e1
  exact ⟨Option.some.inj e1, List.all_eq_true.mp c2 d (List.mem_of_getElem? h)⟩
theorem SaysY.def_ {ex : PySem.W.Frag → Bool} {fn : List DefP} {K : PySem.W.Frag} (c : SaysY ex fn K) (i : Nat) {d : DefP} (h : fn[i]? = some d := by rfl) (hn : d.err = none := by rfl) : ∃ g, FunD K d.name d.qual d.params d.body d.scope (d.dvs K) (d.kws K) (d.pa K) g := by
  obtain ⟨e, k⟩ := c.obs_ i h
  exact DefP.funD hn e k
theorem propB_ok {K : PySem.W.Frag} {c f : Str} {a : Addr} (h : propB K c f a = true) : ∃ p, PropOf K (He.ga K c) f p a := by
  obtain ⟨h1, h2⟩ := He.ba h
  obtain ⟨h3, h4⟩ := He.ba h2
  obtain ⟨h5, h6⟩ := He.ba h4
  refine ⟨pp K c f, of_decide_eq_true h1, of_decide_eq_true h3, of_decide_eq_true h5, ?_⟩
  split at h6
  · rename_i g rest e
    rw [← of_decide_eq_true h6]
    exact ⟨rest, e⟩
  · cases h6
theorem propsB_ok {K : PySem.W.Frag} {cs : List String} {f : String} {a : Addr} (h : propsB K cs f a = true) : ∀ c ∈ cs, ∃ p, PropOf K (He.ga K c) (f : Str) p a := fun c hc => propB_ok (List.all_eq_true.mp h c hc)
theorem methB_ok {K : PySem.W.Frag} {cs : List String} {m : String} {a : Addr} (h : methB K cs m a = true) : ∀ c ∈ cs, Meth K (He.ga K c) (m : Str) a := fun c hc => by
  obtain ⟨h1, h2⟩ := He.ba (List.all_eq_true.mp h c hc)
  obtain ⟨h3, h4⟩ := He.ba h2
  exact ⟨of_decide_eq_true h1, h3, h4⟩
end My
namespace My
open PySem PySem.Spec PyProof.Rows L2
section
variable {P : Program} {w : World} {K : PySem.W.Frag} {mg : Str → Option Value} {base : Heap} {CX : CXT} {j k : Nat} {f : Addr} {fd : FuncData} {ps N : List Str} {sp : Sp} {x q : Str} {st : Stmt} {dvs : List V} {kvs : List (Str × V)}
theorem FnG.of (F : FnOk P w K mg base CX k f fd ps sp) : FnG P w K mg base CX k f fd ps sp := ⟨F.len, fun A outer s H args us vs Q E hr _ => F.run A outer s H args us vs Q E hr⟩
end
end My
namespace My
open PySem PySem.Spec PyProof.Rows L2 PySem.W PySem.HandSPX PySem.Calls PySem.Builtin PySem.Builtin.ObjectAttr
structure EBase (B newId initId : String) (tl : List Value) : Prop where
  F : ExcBaseFacts B newId initId tl
  K : KxsFacts B initId
  S : StoreFacts B tl "object.__setattr__" "object"
theorem eb_ValueError : EBase "ValueError" "ValueError.__new__" "ValueError.__init__" [.type "ValueError", .type "Exception", .type "BaseException", .type "object"] := ⟨F.excBase_ValueError, kxs_ValueError, F.store_ValueError⟩
/-- what the written part says of the class at C, whose fields are fs -/
structure ErrK (K : Frag) (C : Addr) (B newId initId : String) (tl : List Value) (fI : Addr) (fs : List Str) : Prop where
  eb : EBase B newId initId tl
  new : excInitIn K C tl newId = true
  over : excOver K C tl = true
  hd : hasDictIn K C = true
  iC : findIn K (.ref C) "__init__" = some (some (.ref fI))
  fn : isFn K (.ref fI) = true
  sup : ks_superIn K C C "__init__" = some (some (.builtin initId))
  subB : subIn K (.ref C) (.type B) = some true
  ex : subIn K (.ref C) (.type "BaseException") = some true
  ty : typeIn K (.ref C) = some (.type "type")
  kp : keepIn K (.ref C) = true
  sa : findIn K (.ref C) "__setattr__" = some (some (.builtin "object.__setattr__"))
  ga : findIn K (.ref C) "__getattribute__" = some (some (.builtin "BaseException.__getattribute__"))
  gg : findIn K (.ref C) "__getattr__" = some none
  no : ∀ f ∈ fs, takerIn K C f = some none ∧ findIn K (.ref C) f = some none
  st : nsIn K cStatics "thirdparty.any" = some none
  mC : mroIn K C (.ref C) = some true
/-- its __init__'s text -/
def supS (m : Str) (j : Nat) (p0 p1 p2 p3 p4 p5 : Pos) : Stmt := .Expr (.Call (.Attribute (.Call (.Name "super" p0) [] [] p1) "__init__" p2) [.Constant (.str m) j p3] [] p4) p5
def asgS (f : Str) (q1 q2 q3 q4 : Pos) : Stmt := .Assign [.Attribute (.Name "self" q1) f q2] (.Name f q3) q4
structure ErrSc (fs : List Str) (sc : Scope) : Prop where
  kind : sc.kind = .function
  gen : sc.isGenerator = false
  co : sc.isCoroutine = false
  sup : sc.names.lookup ("super" : Str) = some NameKind.globalImplicit
  cls : sc.names.lookup ("__class__" : Str) = some NameKind.free
  self : sc.names.lookup ("self" : Str) = some NameKind.local
  loc : ∀ f ∈ fs, sc.names.lookup f = some NameKind.local
  cell : ∀ x ∈ sc.names, x.2 ≠ NameKind.cell
  dbg : ∀ f ∈ fs, (f == ("__debug__" : Str)) = false
/-- the def at fI: its closure holds the class, its code the file -/
structure ErrFn (K : Frag) (C fI : Addr) (file : Str) (params : Arguments) (body : List Stmt) (sc : Scope) (cc cda : Addr) (qual : Str) : Prop where
  at_ : ∃ (oc : Value) (od : Option Addr) (kV doc pm : Value) (an : Option Addr) (ct : Value) (osl : Array (Option Value)), K.lookup fI = some ⟨oc, od, .func (ksFn "__init__" qual params body sc .none kV doc pm an (.ref cda) ct cc), osl⟩
  rec_ : codeIn K (.ref cda) qual = true
  code : ∃ (ccl : Value) (cdd : Option Addr) (vs : Array Value) (ccs : Array (Option Value)) (tf : Tok), K.lookup cda = some ⟨ccl, cdd, .fields vs, ccs⟩ ∧ vs[2]? = some (.str file tf)
  cell : ∃ (cl : Value) (cld : Option Addr) (csl : Array (Option Value)), K.lookup cc = some ⟨cl, cld, .cell (some (.ref C)), csl⟩
section
variable {prog : Program} {w : World} {A : Around} {E : Value → Shared → Prop} {K : Frag} {C fI cc cda : Addr} {B newId initId : String} {tl : List Value} {fs : List Str} {file qual : Str} {params : Arguments} {body : List Stmt} {sc : Scope}
variable {h : Heap} {g : Array GenState} {d : Drawn} {t : Nat} {os : OsState}
/-- the wrapper of the base's __init__, called -/
theorem call_bwB (T : ErrK K C B newId initId tl fI fs) (X : K.In h) {u e t0 : Addr} {rest : List Value} {Q : Value → Shared → Prop} (he : h.get? e = some (excO C t0)) (hu : h.get? u = some (kxs_mw initId e)) (hrest : rest.length ≤ sizeLine)
    (hq : ∀ h' t1, (∀ b o, b ≠ e → h.get? b = some o → h'.get? b = some o) → h'.get? e = some (excO C t1) → Q .none ⟨h', g, d, t, os⟩) :
    wpAny (model prog w) A (call (.ref u) rest) Q E ⟨h, g, d, t, os⟩ := by
  obtain ⟨nm, N, q, bs, bm, hdct, sn, sub, ab, col, dd, k0, k1, k2, k3, k5, hC, hT⟩ := excInit_of X T.new
  refine wpAny_call (codeAny_of_tree ?_)
  show wpAny _ A.in1 (callAny (.ref u) ⟨rest, []⟩) _ _ _
  simp only [callAny]
  refine wpAny_bind (wpAny_load hu ?_)
  simp only [kxs_mw, show (Value.type "method-wrapper" == Value.type "method" || Value.type "method-wrapper" == Value.type "builtin_function_or_method" || Value.type "method-wrapper" == Value.type "method-wrapper") = true by decide, if_true]
  refine KFB.if_so (by decide) ?_
  refine wpAny_bind (check_bound_init T.eb.F.toExcCallFacts hC he rfl ?_)
  refine wpAny_bind (wpAny_pure (wpAny_pure ?_))
  refine ⟨plainId_quiet T.eb.F.init.plain _, codeAny_builtin T.eb.F.initEntry ?_⟩
  exact exc_init_tree (cls := .ref C) (t0 := t0) (dv := none) (c2 := .none) (c3 := .none) (b4 := .bool false) he hrest fun h' k e' _ => hq h' _ k e'
theorem eval_sup {env : Env} {mt : Str} {j : Nat} {p0 p1 p2 p3 p4 : Pos} (hl : (p2.endLine == p4.line) = true) :
    eval (.Call (.Attribute (.Call (.Name "super" p0) [] [] p1) "__init__" p2) [.Constant (.str mt) j p3] [] p4) env = (do
      let ov ← attributeBase (.Call (.Name "super" p0) [] [] p1) "__init__" env (eval (.Call (.Name "super" p0) [] [] p1) env)
      standAt p2.atName
      let (f, first) ← holding [ov] (getMethod ov "__init__" (do return (← importBound (.Call (.Name "super" p0) [] [] p1) env).getD true))
      callWith p4 f first (backTo p4 (starEach [.Constant (.str mt) j p3] env)) []) := by
  rw [arm_eval_Call]
  have e : ∀ ov, methodCall (.Call (.Name "super" p0) [] [] p1) "__init__" p2 p4 env ov ([Expr.Constant (.str mt) j p3].length + ([] : List Keyword).length) (backTo p4 (starEach [.Constant (.str mt) j p3] env)) (backToKw p4 (keywordEach [] env)) = (do
      let (f, first) ← holding [ov] (getMethod ov "__init__" (do return (← importBound (.Call (.Name "super" p0) [] [] p1) env).getD true))
      callWith p4 f first (backTo p4 (starEach [.Constant (.str mt) j p3] env)) []) := fun ov => by
    unfold methodCall methodCallPos
    have few : methodCallForm ([Expr.Constant (.str mt) j p3].length + ([] : List Keyword).length) (backTo p4 (starEach [.Constant (.str mt) j p3] env)) (backToKw p4 (keywordEach [] env)) = true := rfl
    rw [few, hl]
    simp only [Bool.not_true, Bool.or_true, if_true, pure_bind]
    rfl
  exact congrArg (fun k => attributeBase (.Call (.Name "super" p0) [] [] p1) "__init__" env (eval (.Call (.Name "super" p0) [] [] p1) env) >>= k) (funext fun ov => congrArg (fun k => standAt p2.atName >>= fun _ => k) (e ov))
/-- super().__init__("..") -/
theorem st_super (T : ErrK K C B newId initId tl fI fs) (Fn : ErrFn K C fI file params body sc cc cda qual) (S : ErrSc fs sc) (X : K.In h) {mg mb : Str → Option Value} (hG : h.Ns mainGlobals mg) (hmg : mg "super" = none) (hB : h.Ns builtinsNs mb) (hmb : mb "super" = some (.type "super"))
    (hfile : ((prog.main.file : Str) == file) = true) (htop : (prog.main.scope.names.lookup ("super" : Str)).isSome = false) {ar : Arg} (hp : (params.posonlyargs ++ params.args).head? = some ar) (har : ar.arg = "self")
    {L x t0 : Addr} {m : Str → Option Value} (hns : h.Ns L m) (hself : m "self" = some (.ref x)) (hx : h.get? x = some (excO C t0)) {mt : Str} {j : Nat} {p0 p1 p2 p3 p4 p5 : Pos} (hl : (p2.endLine == p4.line) = true) {Q : Flow → Shared → Prop}
    (hq : ∀ h' t' t1, (∀ b o, b ≠ x → h.get? b = some o → h'.get? b = some o) → h'.get? x = some (excO C t1) → Q .next ⟨h', g, d, t', os⟩) :
    _root_.PySem.wpAt (model prog w) A (.func body (ksEnv qual sc L fI (.ref cda) cc)) (exec (supS mt j p0 p1 p2 p3 p4 p5) (ksEnv qual sc L fI (.ref cda) cc)) Q E ⟨h, g, d, t, os⟩ := by
  obtain ⟨oc, od, kV, doc, pm, an, ct, osl, hf⟩ := Fn.at_
  obtain ⟨ccl, cdd, vs, ccs, tf, hcode, hvs⟩ := Fn.code
  obtain ⟨cl, cld, csl, hcell⟩ := Fn.cell
  obtain ⟨cdC, hcC, _⟩ := any_some T.over
  obtain ⟨oD, hD1, hD2⟩ : ∃ oD, h.get? C = some oD ∧ oD.data = .cls cdC := by
    unfold clsIn at hcC
    split at hcC
    · rename_i c d cd' sl ho
      cases hcC
      exact ⟨_, X _ _ ho, rfl⟩
    · cases hcC
  have I : InstAt h x (excO C t0) C none := ⟨hx, rfl, rfl, trivial⟩
  have hxC := ks_ne X I hcC
  refine ks_wpAt_Expr_any (ks_wpAt_MethodCall (name := "__init__") (he := eval_sup hl) ?_) (by
    unfold interactive
    rw [show (ksEnv qual sc L fI (.ref cda) cc).scope.kind = .function from S.kind]
    rfl)
  refine ks_wpAt_super_base (env := ksEnv qual sc L fI (.ref cda) cc) S.sup S.cls rfl rfl (X _ _ hf) rfl hp rfl (X _ _ hcode) rfl hvs hfile htop ?_
  refine ks_loadName_global S.kind S.sup (loadGlobal_builtin (env := ksEnv qual sc L fI (.ref cda) cc) hG hmg hB hmb ⟨rfl, ?_⟩)
  refine wpAny_loadName_free S.kind S.cls rfl ⟨_, X _ _ hcell, rfl⟩ ?_
  rw [har]
  refine wpAny_loadName_local S.kind S.self hns hself ?_
  refine ks_wpAny_isType_cls hD1 hD2 ⟨rfl, ?_⟩
  refine ks_wpAny_call_super hD1 hD2 hx rfl (fun c e => by cases e) (looks_mroIn X T.mC) (fun h1 e1 k1 => ?_)
  have X1 : K.In h1 := X.keeps k1
  have hsup := T.sup
  unfold ks_superIn at hsup
  rw [hcC] at hsup
  have I1 : InstAt h1 x (excO C t0) C none := ⟨k1 _ _ hx, rfl, rfl, trivial⟩
  refine kxs_getMethod T.eb.K e1 (looks_opaque X1 T.st) (l₀ := cdC.mro) (fun A Q E s k q => wpAny_bind ((looks_clsIn X1 hcC) A _ E s k (wpAny_pure q))) rfl X1 hsup (I1.type.andThen (looks_subIn X1 T.subB)) hxC rfl ?_
  refine kxs_callWith (i := initId) (x := x) rfl ?_
  have k2 : ∀ b o, h1.get? b = some o → (h1.push (kxs_mw initId x)).get? b = some o := fun b o e => Heap.get?_push_of_some _ e
  have hu : (h1.push (kxs_mw initId x)).get? h1.objs.size = some (kxs_mw initId x) := Heap.get?_push_at rfl rfl
  refine evalArgs_plain (spliced_cons (Calls.Constant_str (pos := p3) (k := j) (spliced_nil ⟨hu, ?_⟩)))
  refine call_bwB T (X1.keeps k2) (k2 _ _ (k1 _ _ hx)) hu (by rw [sizeLine_eq]; show 1 ≤ 16777216; decide) fun h' t1 k3 e3 => ?_
  exact hq h' _ t1 (fun b o hb e => k3 b o hb (k2 _ _ (k1 _ _ e))) e3
/-- self.f = v: no dict yet, then a dict -/
theorem set_newB (T : ErrK K C B newId initId tl fI fs) (X : K.In h) {x : Addr} {fv : Array Value} {name : Str} {v : Value} {Q : Unit → Shared → Prop} (hx : h.get? x = some { cls := .ref C, data := .fields fv }) (ht : takerIn K C name = some none)
    (hq : ∀ h' tk' dx, (∀ b o, b ≠ x → h.get? b = some o → h'.get? b = some o) → h.objs.size ≤ dx → dx ≠ x → h'.get? x = some { cls := .ref C, dict := some dx, data := .fields fv } →
      h'.Ns1 dx (fun y => if y = name then some v else none) → Q () ⟨h', g, d, tk', os⟩) :
    wpAny (model prog w) A (setAttr (.ref x) name v) Q E ⟨h, g, d, t, os⟩ := by
  obtain ⟨cd, hc, hd'⟩ := any_some T.hd
  have hxs : x ≠ h.objs.size := Nat.ne_of_lt (Heap.lt_size hx)
  refine set_plain (od := none) X ⟨hx, rfl, rfl, trivial⟩ T.sa (osa_openX (od := none) T.eb.S X ⟨hx, rfl, rfl, trivial⟩ T.over ht fun b => ?_)
  have hcls : Looks (model prog w) h (classData C) cd := looks_clsIn X hc
  obtain ⟨nm, bs, mro, ns, qn, hd, sn, sb, ab, col, del⟩ := cd
  dsimp only at hd'
  subst hd'
  show wpAny _ _ (storeInOwnDict (.ref x) (.ref C) (.str name _) name v b) _ _ _
  unfold storeInOwnDict ownDictForStores
  repeat (first | with_reducible refine HandSPX.store_in_new ?_ ?_ | with_reducible refine wpAny_loadPart_at hx ?_ | with_reducible refine hcls.at ?_ | wp_step)
  · exact ⟨_, #[], _, (Heap.get?_update_ne _ _ _ _ hxs.symm).trans (Heap.get?_push_at rfl rfl), rfl, fun e he => absurd he (by simp), fun _ => rfl⟩
  · intro h' tk' hn' hs
    have hx₁ : (h.push { cls := .type "dict", data := .dict #[] }).get? x = some { cls := .ref C, data := .fields fv } := Heap.get?_push_of_some _ hx
    refine hq h' tk' h.objs.size (fun b o hb ho => ?_) (Nat.le_refl _) hxs.symm ?_ hn'
    · exact (hs.2 b (Nat.ne_of_lt (Heap.lt_size ho))).trans ((Heap.get?_update_ne _ _ _ _ hb).trans (Heap.get?_push_of_some _ ho))
    · exact (hs.2 x hxs).trans (Heap.get?_update_self _ hx₁ rfl)
theorem set_oldB (T : ErrK K C B newId initId tl fI fs) (X : K.In h) {x dx : Addr} {fv : Array Value} {name : Str} {v : Value} {m0 : Str → Option Value} {nl : List Str} {Q : Unit → Shared → Prop}
    (hx : h.get? x = some { cls := .ref C, dict := some dx, data := .fields fv }) (hns : h.Ns1 dx m0) (hw : Within m0 nl) (hz : nl.length ≤ 1000) (ht : takerIn K C name = some none)
    (hq : ∀ h' tk', (∀ b o, b ≠ dx → h.get? b = some o → h'.get? b = some o) → h'.Ns1 dx (fun y => if y = name then some v else m0 y) → Q () ⟨h', g, d, tk', os⟩) :
    wpAny (model prog w) A (setAttr (.ref x) name v) Q E ⟨h, g, d, t, os⟩ := by
  obtain ⟨cd, hc, hd'⟩ := any_some T.hd
  obtain ⟨oD, esD, epD, hoD, hdD, _⟩ := hns.count hw
  refine set_plain (od := some oD) X ⟨hx, rfl, rfl, hoD⟩ T.sa (osa_openX (od := some oD) T.eb.S X ⟨hx, rfl, rfl, hoD⟩ T.over ht fun b => ?_)
  have hcls : Looks (model prog w) h (classData C) cd := looks_clsIn X hc
  obtain ⟨nm, bs, mro, ns, qn, hd, sn, sb, ab, col, del⟩ := cd
  dsimp only at hd'
  subst hd'
  show wpAny _ _ (storeInOwnDict (.ref x) (.ref C) (.str name _) name v b) _ _ _
  unfold storeInOwnDict ownDictForStores
  repeat (first | with_reducible refine ESX.store_in_old hns hw hz ?_ | with_reducible refine wpAny_loadPart_at hx ?_ | with_reducible refine hcls.at ?_ | wp_step)
  intro h' tk' hn' hs
  exact hq h' tk' (fun b o hb ho => (hs.2 b hb).trans ho) hn'
theorem ld_ks {env : Env} {m : Str → Option Value} {x : Str} {pos : Pos} {v : Value} {Q : Value → Shared → Prop} {s : Shared} (hn : s.heap.Ns env.locals m) (hv : m x = some v) (hq : Q v s)
    (hk : env.scope.kind = .function) (hl : env.kindOf x = some .local) (hd : (x == ("__debug__" : Str)) = false) :
    wpAny (model prog w) A (eval (.Name x pos) env) Q E s := wpAny_Name (wpAny_loadName_local hk hl hn hv hq) hd
theorem st_asg_new (T : ErrK K C B newId initId tl fI fs) (S : ErrSc fs sc) (X : K.In h) {L x t1 : Addr} {m : Str → Option Value} {f : Str} {v : Value} {cdv : Value} (hf : f ∈ fs) (hns : h.Ns L m) (hself : m "self" = some (.ref x)) (hv : m f = some v) (hx : h.get? x = some (excO C t1)) {q1 q2 q3 q4 : Pos} {Q : Flow → Shared → Prop}
    (hq : ∀ h' t' dx, (∀ b o, b ≠ x → h.get? b = some o → h'.get? b = some o) → h.objs.size ≤ dx → dx ≠ x → h'.get? x = some { cls := .ref C, dict := some dx, data := .fields #[.ref t1, .none, .none, .none, .bool false, .none] } →
      h'.Ns1 dx (fun y => if y = f then some v else none) → Q .next ⟨h', g, d, t', os⟩) :
    _root_.PySem.wpAt (model prog w) A (.func body (ksEnv qual sc L fI cdv cc)) (exec (asgS f q1 q2 q3 q4) (ksEnv qual sc L fI cdv cc)) Q E ⟨h, g, d, t, os⟩ := by
  refine ks_wpAt_Assign_Attr (wpAt_of_wpAny (ld_ks (m := m) (v := v) hns hv (ld_ks (m := m) (v := .ref x) hns hself ?_ S.kind S.self (by decide)) S.kind (S.loc f hf) (S.dbg f hf)))
  exact set_newB T X hx (T.no f hf).1 hq
theorem st_asg_old (T : ErrK K C B newId initId tl fI fs) (S : ErrSc fs sc) (X : K.In h) {L x dx t1 : Addr} {m m0 : Str → Option Value} {nl : List Str} {f : Str} {v : Value} {cdv : Value} (hf : f ∈ fs) (hns : h.Ns L m) (hself : m "self" = some (.ref x)) (hv : m f = some v)
    (hx : h.get? x = some { cls := .ref C, dict := some dx, data := .fields #[.ref t1, .none, .none, .none, .bool false, .none] }) (hd : h.Ns1 dx m0) (hw : Within m0 nl) (hz : nl.length ≤ 1000) {q1 q2 q3 q4 : Pos} {Q : Flow → Shared → Prop}
    (hq : ∀ h' t', (∀ b o, b ≠ dx → h.get? b = some o → h'.get? b = some o) → h'.Ns1 dx (fun y => if y = f then some v else m0 y) → Q .next ⟨h', g, d, t', os⟩) :
    _root_.PySem.wpAt (model prog w) A (.func body (ksEnv qual sc L fI cdv cc)) (exec (asgS f q1 q2 q3 q4) (ksEnv qual sc L fI cdv cc)) Q E ⟨h, g, d, t, os⟩ := by
  refine ks_wpAt_Assign_Attr (wpAt_of_wpAny (ld_ks (m := m) (v := v) hns hv (ld_ks (m := m) (v := .ref x) hns hself ?_ S.kind S.self (by decide)) S.kind (S.loc f hf) (S.dbg f hf)))
  exact set_oldB T X hx hd hw hz (T.no f hf).1 hq
/-- what is left of a fresh error at x, its __init__ having run -/
structure ErrEnd (h h' : Heap) (x C : Addr) (od : Option Addr) (fs : List (Str × Value)) : Prop where
  keep : ∀ b o, b ≠ x → h.get? b = some o → h'.get? b = some o
  obj : ∃ t1 : Addr, h'.get? x = some { cls := .ref C, dict := od, data := .fields #[.ref t1, .none, .none, .none, .bool false, .none] }
  dict : match od with
    | none => fs = []
    | some dx => fs ≠ [] ∧ h.objs.size ≤ dx ∧ dx ≠ x ∧ h'.Ns1 dx (fun y => fs.lookup y)
abbrev slf (x : Addr) : Str × Value := (("self" : Str), Value.ref x)
/-- the text of __init__ -/
def InitOk : List Str → List Stmt → Prop
  | [], [s] => ∃ m j p0 p1 p2 p3 p4 p5, s = supS m j p0 p1 p2 p3 p4 p5 ∧ (p2.endLine == p4.line) = true
  | [f], [s, a] => (∃ m j p0 p1 p2 p3 p4 p5, s = supS m j p0 p1 p2 p3 p4 p5 ∧ (p2.endLine == p4.line) = true) ∧ ∃ q1 q2 q3 q4, a = asgS f q1 q2 q3 q4
  | [f, f2], [s, a, b] => (∃ m j p0 p1 p2 p3 p4 p5, s = supS m j p0 p1 p2 p3 p4 p5 ∧ (p2.endLine == p4.line) = true) ∧ (∃ q1 q2 q3 q4, a = asgS f q1 q2 q3 q4) ∧ (∃ q1 q2 q3 q4, b = asgS f2 q1 q2 q3 q4) ∧ f ≠ f2
  | _, _ => False
theorem InitOk.cases : ∀ {fs : List Str} {body : List Stmt}, InitOk fs body → ∃ m j p0 p1 p2 p3 p4 p5, (p2.endLine == p4.line) = true ∧ ((fs = [] ∧ body = [supS m j p0 p1 p2 p3 p4 p5]) ∨ (∃ f q1 q2 q3 q4, fs = [f] ∧ body = [supS m j p0 p1 p2 p3 p4 p5, asgS f q1 q2 q3 q4]) ∨
    ∃ f f2 q1 q2 q3 q4 r1 r2 r3 r4, fs = [f, f2] ∧ body = [supS m j p0 p1 p2 p3 p4 p5, asgS f q1 q2 q3 q4, asgS f2 r1 r2 r3 r4] ∧ f ≠ f2)
  | [], [s], ⟨m, j, p0, p1, p2, p3, p4, p5, e, h⟩ => ⟨m, j, p0, p1, p2, p3, p4, p5, h, .inl ⟨rfl, by rw [e]⟩⟩
  | [f], [s, a], ⟨⟨m, j, p0, p1, p2, p3, p4, p5, e, h⟩, q1, q2, q3, q4, e2⟩ => ⟨m, j, p0, p1, p2, p3, p4, p5, h, .inr (.inl ⟨f, q1, q2, q3, q4, rfl, by rw [e, e2]⟩)⟩
  | [f, f2], [s, a, b], ⟨⟨m, j, p0, p1, p2, p3, p4, p5, e, h⟩, ⟨q1, q2, q3, q4, e2⟩, ⟨r1, r2, r3, r4, e3⟩, hne⟩ => ⟨m, j, p0, p1, p2, p3, p4, p5, h, .inr (.inr ⟨f, f2, q1, q2, q3, q4, r1, r2, r3, r4, rfl, by rw [e, e2, e3], hne⟩)⟩
  | [], [], h => h.elim
  | [], _ :: _ :: _, h => h.elim
  | [_], [], h => h.elim
  | [_], [_], h => h.elim
  | [_], _ :: _ :: _ :: _, h => h.elim
  | [_, _], [], h => h.elim
  | [_, _], [_], h => h.elim
  | [_, _], [_, _], h => h.elim
  | [_, _], _ :: _ :: _ :: _ :: _, h => h.elim
  | _ :: _ :: _ :: _, [], h => h.elim
  | _ :: _ :: _ :: _, [_], h => h.elim
  | _ :: _ :: _ :: _, [_, _], h => h.elim
  | _ :: _ :: _ :: _, _ :: _ :: _ :: _, h => h.elim
theorem lookup_two {f f2 : Str} {v v2 : Value} (hne : f ≠ f2) : (fun y : Str => if y = f2 then some v2 else if y = f then some v else none) = fun y => List.lookup y [(f, v), (f2, v2)] := by
  funext y
  by_cases h1 : y = f
  · subst h1
    rw [if_neg hne, if_pos rfl, List.lookup_cons, beq_self_eq_true]
  · rw [if_neg h1, List.lookup_cons, show (y == f) = false from beq_eq_false_iff_ne.mpr h1]
    by_cases h2 : y = f2
    · subst h2
      rw [if_pos rfl]
      show _ = List.lookup y [(y, v2)]
      rw [List.lookup_cons, beq_self_eq_true]
    · rw [if_neg h2]
      show _ = List.lookup y [(f2, v2)]
      rw [List.lookup_cons, show (y == f2) = false from beq_eq_false_iff_ne.mpr h2]
      rfl
theorem lookup_one {f : Str} {v : Value} : (fun y : Str => if y = f then some v else none) = fun y => List.lookup y [(f, v)] := by
  funext y
  by_cases h1 : y = f
  · subst h1
    rw [if_pos rfl, List.lookup_cons, beq_self_eq_true]
  · rw [if_neg h1, List.lookup_cons, show (y == f) = false from beq_eq_false_iff_ne.mpr h1]
    rfl
theorem err_init (T : ErrK K C B newId initId tl fI fs) (Fn : ErrFn K C fI file params body sc cc cda qual) (S : ErrSc fs sc) (hI : InitOk fs body) (X : K.In h) (hlim : h.NoLimit) {mg mb : Str → Option Value} (hG : h.Ns mainGlobals mg) (hmg : mg "super" = none) (hB : h.Ns builtinsNs mb) (hmb : mb "super" = some (.type "super"))
    (hfile : ((prog.main.file : Str) == file) = true) (htop : (prog.main.scope.names.lookup ("super" : Str)).isSome = false) {ar : Arg} (hp : (params.posonlyargs ++ params.args).head? = some ar) (har : ar.arg = "self")
    {x t0 : Addr} {args : Args} {vs : List Value} {R : Result → Shared → Prop} (hx : h.get? x = some (excO C t0)) (hnx : K.lookup x = none) (hgx : mainGlobals ≠ x) (hbx : builtinsNs ≠ x) (hl : vs.length = fs.length) (hnd : fs.Nodup) (hns : ("self" : Str) ∉ fs) (hroom : A.depth < recursionLimit)
    (hbind : ∀ (kV doc pm : Value) (an : Option Addr) (ct : Value), BindsTo ⟨h, g, d, t, os⟩ (ksFn "__init__" qual params body sc .none kV doc pm an (.ref cda) ct cc) args (slf x :: fs.zip vs))
    (hq : ∀ h' t' od, ErrEnd h h' x C od (fs.zip vs) → R (.ok (.ret .none)) ⟨h', g, d, t', os⟩) :
    codeAny (model prog w) A (.call (.ref fI) args) R ⟨h, g, d, t, os⟩ := by
  obtain ⟨oc, od, kV, doc, pm, an, ct, osl, hf⟩ := Fn.at_
  have hloc : ∀ y ∈ slf x :: fs.zip vs, sc.names.lookup y.1 = some .local := fun y hy => by
    rcases List.mem_cons.mp hy with rfl | hy
    · exact S.self
    · exact S.loc _ (List.of_mem_zip hy).1
  refine ks_codeAny_call_defAt (fd := ksFn "__init__" qual params body sc .none kV doc pm an (.ref cda) ct cc) (body := body) (binds := slf x :: fs.zip vs) hroom (X _ _ hf) rfl hlim (codeRec_of X Fn.rec_) rfl (hbind kV doc pm an ct) S.cell hloc (fun h₁ hn₁ k₁ => ?_) S.co S.gen S.kind
  have xL : h.objs.size ≠ x := Nat.ne_of_gt (Heap.lt_size hx)
  have X₁ : K.In h₁ := X.keeps k₁
  have bk : ∀ {h2 : Heap}, (∀ b o, b ≠ x → h₁.get? b = some o → h2.get? b = some o) → K.In h2 := fun {h2} k b o e => k b o (fun z => by rw [z, hnx] at e; cases e) (X₁ _ _ e)
  obtain ⟨oL, es, ep, hL, rL⟩ := id hn₁
  have hm0 : (List.lookup ("self" : Str) (slf x :: fs.zip vs).reverse) = some (.ref x) := by
    match fs, vs, hl, hns with
    | [], [], _, _ => rfl
    | [f], [v], _, hns =>
      have n1 : (("self" : Str) == f) = false := beq_eq_false_iff_ne.mpr fun z => hns (by rw [z]; exact List.mem_cons_self)
      show List.lookup ("self" : Str) [(f, v), slf x] = _
      rw [List.lookup_cons, n1]
      rfl
    | f :: f2 :: r, vs, hl, hns =>
      have key : ∀ l : List (Str × Value), (∀ p ∈ l, ("self" : Str) ≠ p.1) → List.lookup ("self" : Str) (l ++ [slf x]) = some (.ref x) := by
        intro l
        induction l with
        | nil => intro _; rfl
        | cons p l ih =>
          intro hp
          obtain ⟨a, b⟩ := p
          show List.lookup ("self" : Str) ((a, b) :: (l ++ [slf x])) = _
          rw [List.lookup_cons, show (("self" : Str) == a) = false from beq_eq_false_iff_ne.mpr (hp (a, b) List.mem_cons_self)]
          exact ih fun q hq => hp q (List.mem_cons_of_mem _ hq)
      rw [List.reverse_cons]
      exact key _ fun p hp z => hns (by rw [z]; exact (List.of_mem_zip (List.mem_reverse.mp hp)).1)
  have sup : ∀ {m j p0 p1 p2 p3 p4 p5} {Q : Flow → Shared → Prop} {E : Value → Shared → Prop}, (p2.endLine == p4.line) = true → (∀ h' t' t1, (∀ b o, b ≠ x → h₁.get? b = some o → h'.get? b = some o) → h'.get? x = some (excO C t1) → Q .next ⟨h', g, d, t', os⟩) →
      _root_.PySem.wpAt (model prog w) (A.deeper (ksEnv qual sc h.objs.size fI (.ref cda) cc)) (.func body (ksEnv qual sc h.objs.size fI (.ref cda) cc)) (exec (supS m j p0 p1 p2 p3 p4 p5) (ksEnv qual sc h.objs.size fI (.ref cda) cc)) Q E ⟨h₁, g, d, t + (slf x :: fs.zip vs).length, os⟩ := fun {m j p0 p1 p2 p3 p4 p5 Q E} hp2 hq' =>
    st_super T Fn S X₁ (hG.keeps k₁) hmg (hB.keeps k₁) hmb hfile htop hp har hn₁ hm0 (k₁ _ _ hx) hp2 hq'
  have lk : ∀ {h2 : Heap}, (∀ b o, b ≠ x → h₁.get? b = some o → h2.get? b = some o) → h2.Ns h.objs.size (fun y => (slf x :: fs.zip vs).reverse.lookup y) := fun {h2} k => ⟨oL, es, ep, k _ _ xL hL, rL⟩
  clear hn₁ hL rL
  have kb : ∀ {h2 : Heap} {a : Addr}, (∀ b o, b ≠ x → h₁.get? b = some o → h2.get? b = some o) → h2.objs.size ≤ a → h.objs.size ≤ a := fun {h2 a} k ha => by
    obtain ⟨o, _, _, ho, _⟩ := lk k
    exact Nat.le_trans (Nat.le_of_lt (Heap.lt_size ho)) ha
  obtain ⟨m, j, p0, p1, p2, p3, p4, p5, hp2, ⟨rfl, rfl⟩ | ⟨f, q1, q2, q3, q4, rfl, rfl⟩ | ⟨f, f2, q1, q2, q3, q4, r1, r2, r3, r4, rfl, rfl, hne⟩⟩ := hI.cases
  · refine ks_wpAt_execs_cons (sup hp2 fun h' t' t1 k e => wpAt_of_wpAny (wpAny_execs_nil (hq h' t' none ⟨fun b o hb ho => k b o hb (k₁ _ _ ho), ⟨t1, e⟩, rfl⟩)))
  · obtain ⟨v, rfl⟩ : ∃ v, vs = [v] := by
      match vs, hl with
      | [v], _ => exact ⟨v, rfl⟩
    refine ks_wpAt_execs_cons (sup hp2 fun h' t' t1 k e => ks_wpAt_execs_cons ?_)
    have m1 : List.lookup f (slf x :: [f].zip [v]).reverse = some v := by
      show List.lookup f [(f, v), slf x] = _
      rw [List.lookup_cons, beq_self_eq_true]
    refine st_asg_new T S (bk k) List.mem_cons_self (lk k) hm0 m1 e fun h2 t2 dx k2 ds dn e2 d2 => ?_
    exact wpAt_of_wpAny (wpAny_execs_nil (hq h2 t2 (some dx) ⟨fun b o hb ho => k2 b o hb (k b o hb (k₁ _ _ ho)), ⟨t1, e2⟩, ⟨(fun z => nomatch z), kb k ds, dn, by rw [lookup_one] at d2; exact d2⟩⟩))
  · obtain ⟨v, v2, rfl⟩ : ∃ v v2, vs = [v, v2] := by
      match vs, hl with
      | [v, v2], _ => exact ⟨v, v2, rfl⟩
    have n2 : (f == f2) = false := beq_eq_false_iff_ne.mpr hne
    refine ks_wpAt_execs_cons (sup hp2 fun h' t' t1 k e => ks_wpAt_execs_cons ?_)
    have m1 : List.lookup f (slf x :: [f, f2].zip [v, v2]).reverse = some v := by
      show List.lookup f [(f2, v2), (f, v), slf x] = _
      rw [List.lookup_cons, n2, List.lookup_cons, beq_self_eq_true]
    have m2 : List.lookup f2 (slf x :: [f, f2].zip [v, v2]).reverse = some v2 := by
      show List.lookup f2 [(f2, v2), (f, v), slf x] = _
      rw [List.lookup_cons, beq_self_eq_true]
    refine st_asg_new T S (bk k) List.mem_cons_self (lk k) hm0 m1 e fun h2 t2 dx k2 ds dn e2 d2 => ks_wpAt_execs_cons ?_
    have k12 : ∀ b o, b ≠ x → h₁.get? b = some o → h2.get? b = some o := fun b o hb ho => k2 b o hb (k b o hb ho)
    have hw : Within (fun y : Str => if y = f then some v else none) [f] := fun y hy => by
      by_cases z : y = f
      · rw [z]; exact List.mem_cons_self
      · exact absurd (if_neg z) hy
    refine st_asg_old T S (bk k12) (List.mem_cons_of_mem _ List.mem_cons_self) (lk k12) hm0 m2 e2 d2 hw (by show 1 ≤ 1000; decide) fun h3 t3 k3 d3 => ?_
    have xd : x ≠ dx := fun z => dn z.symm
    refine wpAt_of_wpAny (wpAny_execs_nil (hq h3 t3 (some dx) ⟨fun b o hb ho => ?_, ⟨t1, k3 _ _ xd e2⟩, ⟨(fun z => nomatch z), kb k ds, dn, by rw [lookup_two hne] at d3; exact d3⟩⟩))
    refine k3 b o (fun z => ?_) (k12 b o hb (k₁ _ _ ho))
    rw [z] at ho
    exact absurd (Heap.lt_size ho) (Nat.not_lt.mpr (kb k ds))
end
end My
namespace My
open PySem PySem.Spec PyProof.Rows L2 PySem.W PySem.HandSPX PySem.Calls
structure ErrMade (h h' : Heap) (e C : Addr) (od : Option Addr) (fs : List (Str × Value)) : Prop where
  keep : ∀ b o, h.get? b = some o → h'.get? b = some o
  new : h.objs.size ≤ e
  obj : ∃ t1 : Addr, h'.get? e = some { cls := .ref C, dict := od, data := .fields #[.ref t1, .none, .none, .none, .bool false, .none] }
  dict : match od with
    | none => fs = []
    | some dx => fs ≠ [] ∧ h.objs.size ≤ dx ∧ dx ≠ e ∧ h'.Ns1 dx (fun y => fs.lookup y)
/-- .. all of the class and its __init__ -/
structure ErrT (K : Frag) (C : Addr) (fs : List Str) (file : Str) : Prop where
  ex : ∃ (B newId initId : String) (tl : List Value) (fI cc cda : Addr) (qual : Str) (params : Arguments) (body : List Stmt) (sc : Scope), ErrK K C B newId initId tl fI fs ∧ ErrFn K C fI file params body sc cc cda qual ∧ ErrSc fs sc ∧ InitOk fs body ∧
    (∃ ar, (params.posonlyargs ++ params.args).head? = some ar ∧ ar.arg = "self") ∧ (∀ (s' : Shared) (self : Value) (us : List Value) (kV doc pm : Value) (an : Option Addr) (ct : Value), us.length = fs.length → BindsTo s' (ksFn "__init__" qual params body sc .none kV doc pm an (.ref cda) ct cc) ⟨self :: us, []⟩ (("self", self) :: fs.zip us))
  nd : fs.Nodup
  ns : ("self" : Str) ∉ fs
  le : fs.length ≤ 2
  kp : keepIn K (.ref C) = true
  ex2 : subIn K (.ref C) (.type "BaseException") = some true
  ty : typeIn K (.ref C) = some (.type "type")
section
variable {prog : Program} {w : World} {A : Around} {E : Value → Shared → Prop} {K : Frag} {C : Addr} {fs : List Str} {file : Str} {h : Heap} {g : Array GenState} {d : Drawn} {t : Nat} {os : OsState}
theorem err_made (T : ErrT K C fs file) (X : K.In h) (hlim : h.NoLimit) {mg mb : Str → Option Value} (hG : h.Ns mainGlobals mg) (hmg : mg "super" = none) (hB : h.Ns builtinsNs mb) (hmb : mb "super" = some (.type "super"))
    (hfile : ((prog.main.file : Str) == file) = true) (htop : (prog.main.scope.names.lookup ("super" : Str)).isSome = false) {us : List Value} {R : Result → Shared → Prop} (hl : us.length = fs.length) (hroom : A.depth + 1 < recursionLimit)
    (hq : ∀ h' t' e od, ErrMade h h' e C od (fs.zip us) → R (.ok (.ret (.ref e))) ⟨h', g, d, t', os⟩) :
    codeAny (model prog w) A (.call (.ref C) ⟨us, []⟩) R ⟨h, g, d, t, os⟩ := by
  obtain ⟨B, newId, initId, tl, fI, cc, cda, qual, params, body, sc, TK, Fn, S, hI, ⟨ar, hp, har⟩, hb⟩ := T.ex
  obtain ⟨nm, N, q, bs, bm, hdct, sn, sub, ab, col, dd, k0, k1, k2, k3, k5, hC, hT⟩ := excInit_of X TK.new
  obtain ⟨oI, hoI, hcI⟩ : ∃ oI, h.get? fI = some oI ∧ oI.cls = .type "function" := by
    obtain ⟨o, ho, hc⟩ := Option.map_eq_some_iff.mp (show (K.lookup fI).map (·.cls) = some (.type "function") from beq_iff_eq.mp TK.fn)
    exact ⟨o, X _ _ ho, hc⟩
  have hz : us.length ≤ sizeLine := by
    rw [hl, sizeLine_eq]
    exact Nat.le_trans T.le (by decide)
  have k : ∀ b o, h.get? b = some o → ((h.push (kdv_tup us)).push (excO C h.objs.size)).get? b = some o := fun b o e => Heap.get?_push_of_some _ (Heap.get?_push_of_some _ e)
  have hget : ((h.push (kdv_tup us)).push (excO C h.objs.size)).get? (h.objs.size + 1) = some (excO C h.objs.size) := by heap_get
  have big : ∀ {b o}, h.get? b = some o → b ≠ h.objs.size + 1 := fun {b o} e => Nat.ne_of_lt (Nat.lt_succ_of_lt (Heap.lt_size e))
  have hnx : K.lookup (h.objs.size + 1) = none := by
    cases e : K.lookup (h.objs.size + 1) with
    | none => rfl
    | some o => exact absurd rfl (big (X _ _ e))
  have hgx : mainGlobals ≠ h.objs.size + 1 := by
    obtain ⟨o, _, _, ho, _⟩ := id hG
    exact big ho
  have hbx : builtinsNs ≠ h.objs.size + 1 := by
    obtain ⟨o, _, _, ho, _⟩ := id hB
    exact big ho
  refine HandSPX.call_own TK.eb.F hT hC (looks_findIn X TK.iC) (fun self => exc_bind hoI hcI self) hz ?_
  refine err_init TK Fn S hI (X.keeps k) (hlim.keeps k) (hG.keeps k) hmg (hB.keeps k) hmb hfile htop hp har (x := h.objs.size + 1) (vs := us) hget hnx hgx hbx hl T.nd T.ns hroom (fun kV doc pm an ct => hb _ _ us kV doc pm an ct hl) fun h' t' od M => ⟨rfl, hq h' t' _ od ⟨fun b o ho => M.keep b o (big ho) (k b o ho), Nat.le_succ _, M.obj, ?_⟩⟩
  have hd := M.dict
  cases od with
  | none => exact hd
  | some dx =>
    refine ⟨hd.1, Nat.le_trans ?_ hd.2.1, hd.2.2⟩
    simp only [Heap.size_push]
    omega
end
theorem relO_zip : ∀ {fs : List Str} {vs : List V} {us : List Value}, Vals vs us → ∀ f, RelO ((fs.zip vs).lookup f) ((fs.zip us).lookup f)
  | [], _, _, _, _ => trivial
  | _ :: _, _, _, .nil, _ => trivial
  | g :: fs, _, _, .cons rv r, f => by
    show RelO (List.lookup f ((g, _) :: fs.zip _)) (List.lookup f ((g, _) :: fs.zip _))
    rw [List.lookup_cons, List.lookup_cons]
    cases f == g with
    | true => exact rv
    | false => exact relO_zip r f
/-- C(..), an error -/
def tMkErr (C : Addr) (fs : List Str) (ta : TA) : L2.St → Hp → XK → Prop := fun σ H Q => ta σ H fun vs H1 => vs.length = fs.length ∧ (fs = [] → Q (.ref C) none H1) ∧ (fs ≠ [] → ∀ d, H1 d = none → Q (.ref C) (some d) (upd H1 d (.xd (fs.zip vs))))
section
variable {X : Cx} {C : Addr} {fs : List Str} {file : Str} {es : List Expr} {ta : TA} {p pos : Pos} {k : Nat} {x : Str}
theorem pmk_err (hP : OkP file X.prog) (T : ErrT X.K C fs file) (hm : X.mg x = some (.ref C)) (hs : X.mg "super" = none) (hr : Room k X.A) (hk : 1 ≤ k) (ha : PA X es ta) (hg : Gl X x) (hn : es = [] → ta = tNil := by intro z; first | rfl | cases z) (hse : StarOk X es := by first | exact trivial | rfl)
    (hpl : ((backTo pos (starEach es X.env)).any (·.1) || (backToKw pos (keywordEach [] X.env)).any (·.1.isNone)) = false := by rfl) (hdb : (x == ("__debug__" : Str)) = false := by decide) :
    PMk X (.Call (.Name x p) es [] pos) (tMkErr C fs ta) := by
  intro pins s σ H Q I h
  refine wpAny_Call_Name_kw (ld_glob I hg hm ?_ hdb)
  refine callWith_any (fv := .ref C) (first := []) (tk := tNil) (ks := []) (R := fun vs _ H1 => vs.length = fs.length ∧ (fs = [] → Q (.ref C) none H1) ∧ (fs ≠ [] → ∀ d, H1 d = none → Q (.ref C) (some d) (upd H1 d (.xd (fs.zip vs))))) T.kp ha pk_nil hn hse rfl rfl hpl I h fun us vs ws zs s2 H2 I2 r rz ⟨l1, q1, q2⟩ => ?_
  rw [List.zip_nil_left]
  have hl : us.length = fs.length := r.length.symm.trans l1
  have hlim := I2.nolimit
  obtain ⟨mb, hb1, hb2⟩ := I2.mod.blt
  have hmb : mb "super" = some (.type "super") := (hb2 _ (by decide)).trans (by kernel_rfl)
  have bk := I2.bk
  obtain ⟨hp, g, dr, tk, os⟩ := s2
  refine wpAny_call (err_made T I2.kIn hlim (I2.mod.glob.keeps bk) hs (hb1.keeps bk) hmb hP.file hP.top hl (by have := hr.dp; omega) fun h' tk' e od M => ?_)
  show MkP X pins σ Q (.ref e) ⟨h', g, dr, tk', os⟩
  obtain ⟨t1, ho⟩ := M.obj
  have hd := M.dict
  have hen : hp.get? e = none := by
    cases z : hp.get? e with
    | none => rfl
    | some o => exact absurd (Heap.lt_size z) (Nat.not_lt.mpr M.new)
  cases od with
  | none =>
    have hfs : fs = [] := by
      have : fs.zip us = [] := hd
      cases fs with
      | nil => rfl
      | cons f fs =>
        cases us with
        | nil => cases hl
        | cons => cases this
    exact ⟨e, _, _, ⟨hp, g, dr, tk, os⟩, H2, .ref C, none, rfl, I2, M.keep, hen, ho, ⟨rfl, rfl⟩, rfl, rfl, I2.hok.fresh M.new, rfl, I2.bare, raises_own T.ex2 T.ty, q1 hfs⟩
  | some d =>
    obtain ⟨hne, dbig, dne, hns⟩ := hd
    have hfs : fs ≠ [] := fun z => hne (by rw [z]; rfl)
    obtain ⟨G', g1, g2⟩ := restrict h' fun b => decide (b ≠ e)
    have gk : ∀ b, b ≠ e → G'.get? b = h'.get? b := fun b hb => g1 b (decide_eq_true hb)
    have ge : G'.get? e = none := g2 e (by simp)
    have old : ∀ b o, hp.get? b = some o → G'.get? b = some o := fun b o q => (gk b (Nat.ne_of_lt (Nat.lt_of_lt_of_le (Heap.lt_size q) M.new))).trans (M.keep b o q)
    have ob : ObjOk X.prog X.w (upd H2 d (.xd (fs.zip vs))) G' d (.xd (fs.zip vs)) := ⟨_, hns.at (fun o q => (gk d dne).trans q), fun f => relO_zip r f⟩
    have J : Inv X pins σ (upd H2 d (.xd (fs.zip vs))) ⟨G', g, dr, tk', os⟩ := I2.laid (t' := tk') old dbig ob
    refine ⟨e, _, _, ⟨G', g, dr, tk', os⟩, _, .ref C, some d, rfl, J, fun b o q => ?_, ge, ho, ⟨rfl, rfl⟩, rfl, rfl, ?_, rfl, I2.bare, raises_own T.ex2 T.ty, q2 hfs d (I2.hok.fresh dbig)⟩
    · by_cases hb : b = e
      · have q' : G'.get? b = some o := q
        rw [hb, ge] at q'; cases q'
      · exact (gk b hb).symm.trans q
    · rw [upd_ne (Ne.symm dne)]
      exact I2.hok.fresh M.new
end
theorem erO_ok {P : Program} {w : World} {H : Hp} {h : Heap} {a : Addr} {cls : Value} {d : Option Addr} {oe : Obj} {vs : Array Value} (e : h.get? a = some oe) (z : Zc cls d oe) (hd : oe.data = .fields vs) : ObjOk P w H h a (ErO a cls d) :=
  ⟨⟨oe, vs, e, z, hd⟩, ⟨_, e⟩, fun h1 h2 z k => by
    obtain ⟨o, vs, q, r⟩ := z
    exact ⟨o, vs, k _ q, r⟩⟩
theorem erO_at {P : Program} {w : World} {H : Hp} {h : Heap} {a : Addr} {cls : Value} {d : Option Addr} (hok : HOk P w H h) (he : H a = some (ErO a cls d)) : ∃ (oe : Obj) (vs : Array Value), h.get? a = some oe ∧ Zc cls d oe ∧ oe.data = .fields vs := by
  have x : ObjOk P w H h a (.ext fun h => ∃ (oe : Obj) (vs : Array Value), h.get? a = some oe ∧ Zc cls d oe ∧ oe.data = .fields vs) := hok a _ he
  exact x.1
theorem Inv.adopt {X : Cx} {pins : List (Addr × Obj)} {σ : L2.St} {H : Hp} {s : Shared} {a : Addr} {oe : Obj} {vs : Array Value} {cls : Value} {d : Option Addr} (I : Inv X pins σ H s) (he : s.heap.get? a = some oe) (hz : Zc cls d oe) (hd : oe.data = .fields vs) (na : H a = none) (h0 : X.s_0.heap.get? a = none)
    (nL : a ≠ X.env.locals) (np : ∀ p ∈ X.pn ++ pins, p.1 ≠ a) : Inv X pins σ (upd H a (ErO a cls d)) s := by
  have nn : ∀ {b : Addr} {o : HO}, H b = some o → b ≠ a := fun {b o} e z => by rw [z, na] at e; cases e
  refine ⟨I.ok, I.os, I.bare, ⟨I.base.keep, I.base.slot, fun b o e n hx => ?_, I.base.there, fun b xs e => ?_, fun b o u e => ?_, fun b ps e => ?_⟩, I.loc, I.cell, ?_, fun x c e => ?_, fun p hp => ?_, fun b o e => ?_, I.len⟩
  · have ne : b ≠ a := fun z => by rw [z, h0] at e; cases e
    rw [upd_ne ne]
    exact I.base.free b o e n hx
  · have q := I.base.tups b xs e
    rw [upd_ne (nn q)]
    exact q
  · have q := I.base.frzs b o u e
    rw [upd_ne (nn q)]
    exact q
  · obtain ⟨more, q⟩ := I.base.tbls b ps e
    exact ⟨more, by rw [upd_ne (nn q)]; exact q⟩
  · rw [upd_ne nL.symm]
    exact I.free
  · have ne : c ≠ a := fun z => by
      obtain ⟨v, hv⟩ := I.cell x c e
      rw [z] at hv
      obtain ⟨o, ho, hd2⟩ := hv
      rw [he] at ho
      cases ho
      rw [hd] at hd2
      cases hd2
    rw [upd_ne ne]
    exact I.freeC x c e
  · obtain ⟨q1, q2, q3⟩ := I.pin p hp
    exact ⟨q1, by rw [upd_ne (np p hp)]; exact q2, q3⟩
  · by_cases z : b = a
    · subst z
      rw [upd_same] at e
      cases e
      exact erO_ok he hz hd
    · rw [upd_ne z] at e
      refine (I.hok b o e).stay (fun c u _ q => q) (fun c q => ?_) fun c xs q => ?_
      · rw [upd_ne (nn q)]
        exact q
      · rw [upd_ne (nn q)]
        exact q
end My
namespace My
open PySem PySem.Spec PyProof.Rows L2
theorem Inv.suite0 {X : Cx} {pins : List (Addr × Obj)} {σ : L2.St} {H : Hp} {s : Shared} (I : Inv X pins σ H s) (a : Addr) : Inv (X.suite a (X.pn ++ pins)) [] σ H s :=
  ⟨I.ok.suite _ _, I.os, I.bare, I.base, I.loc, I.cell, I.free, I.freeC, fun p hp => I.pin p (by rw [List.append_nil] at hp; exact hp), I.hok, I.len⟩
theorem Inv.unsuite0 {X : Cx} {pins : List (Addr × Obj)} {σ : L2.St} {H : Hp} {s : Shared} {a : Addr} (I : Inv (X.suite a (X.pn ++ pins)) [] σ H s) (ok : X.Ok) : Inv X pins σ H s :=
  ⟨ok, I.os, I.bare, I.base, I.loc, I.cell, I.free, I.freeC, fun p hp => I.pin p (by rw [List.append_nil]; exact hp), I.hok, I.len⟩
def wAsK (K : PySem.W.Frag) (c : Value) (i : Nat) (ts : TS) (D : Ends) : WX := fun cls d σ H => PySem.W.exmOne K cls c = some true ∧ ∀ a, H a = none →
  ts { nx := fun σ' H' => D.nx (σ'.set i none) H', rt := D.rt, bk := fun σ' H' => D.bk (σ'.set i none) H', ct := fun σ' H' => D.ct (σ'.set i none) H' } (σ.set i (some (.ref a))) (upd H a (ErO a cls d))
theorem ps_try_keep {X : Cx} {x n : Str} {c : Value} {i : Nat} {body suite : List Stmt} {b₀ : Stmt} {np pos pos' : Pos} {tb : WX → TS} {ts : TS} {more : List ExceptHandler}
    (hs : X.stack = X.env :: X.outer) (hf : X.env.frame = some X.env.locals) (hex : X.ex = []) (hN : X.N.Nodup) (hi : X.N[i]? = some n) (hln : X.env.kindOf n = some .local) (hc : Names X x c)
    (hb : ∀ (W : WX) (pn : List (Addr × Obj)) (xe : Value → Shared → Prop), Takes (X.tr pn xe) W → PassesOwn (model X.prog X.w) X.A X.env xe → PSs (X.tr pn xe) body (tb W))
    (hsu : ∀ (a : Addr) (pn : List (Addr × Obj)), PSs (X.suite a pn) (b₀ :: suite) ts) :
    PS X (.Try body (.ExceptHandler (some (.Name x np)) (some n) (b₀ :: suite) pos' :: more) [] [] pos) (fun D σ H => tb (wAsK X.K c i ts D) D σ H) := by
  refine ⟨fun pins s σ H D I h => ?_⟩
  have ok := I.ok
  have hfr : X.A.frames = some (X.env :: X.outer) := by rw [ok.frames, hs]
  have hloc : Loc X.env.scope n := .inl hln
  refine wpAny_Try_except ?_
  refine wpAny_mono ((hb (wAsK X.K c i ts D) (X.pn ++ pins) (fun e s₁ => wpAny (model X.prog X.w) X.A (noteFrame e X.env) (fun _ s₂ => wpAny (model X.prog X.w) X.A (setFlight e none) (fun _ s₃ =>
    wpAny (model X.prog X.w) X.A (handleBy e X.env (.ExceptHandler (some (.Name x np)) (some n) (b₀ :: suite) pos' :: more)) (L2.SP X pins D) X.xe s₃) X.xe s₂) X.xe s₁) (fun u s' xx => ?_) PassesOwn.looking).run [] s σ H D (I.toTry _) h) (fun f s1 hsp => ?_) (fun e s1 he => he)
  · obtain ⟨a, B, sI, pins', σ', H', cls, d, rfl, J', nb, up, sky, na, os, ag, hb1, hyes⟩ := xx
    have J : Inv X pins σ' H' sI := J'.ofTry ok
    have sky' : Sky B (X.env :: X.outer) a (Zc cls d) X.env.locals s'.heap := by rw [← hs]; exact sky
    show wpAny (model X.prog X.w) X.A (noteFrame (.ref a) X.env) _ _ _
    refine Sky.land Zc.steady hfr hf sky' fun h3 fl3 up3 => ?_
    have J3 : Inv X pins σ' H' { s' with heap := h3 } := J.landed nb fl3.1 (up.trans up3) os ag
    obtain ⟨oe3, vs3, he3, hz3, hd3⟩ := fl3.there
    have notFr : ∀ {h : Heap} {o : Obj} {vs : Array Value}, h.FunFrames B (X.env :: X.outer) → h.get? a = some o → o.data = .fields vs → a ∉ frs (X.env :: X.outer) := fun {h o vs} ff e dd hm => by
      obtain ⟨_, o', e', hnf⟩ := ff.mem hm
      rw [e] at e'; cases e'
      exact hnf _ dd
    have nfr := notFr fl3.2.2.1 he3 hd3
    have nL : a ≠ X.env.locals := fun z => nfr (List.mem_filterMap.mpr ⟨X.env, List.mem_cons_self, by rw [hf, z]⟩)
    have nF : a ∉ X.fs := fun hm => by
      obtain ⟨e, he, q⟩ := List.mem_filterMap.mp hm
      exact nfr (List.mem_filterMap.mpr ⟨e, List.mem_cons_of_mem _ he, q⟩)
    have hIa : sI.heap.get? a = none := by
      cases z : sI.heap.get? a with
      | none => rfl
      | some o =>
        have q := nb a o z (by rw [hs]; exact nfr)
        rw [fl3.2.1] at q
        cases q
    have h0 : X.s_0.heap.get? a = none := by
      cases z : X.s_0.heap.get? a with
      | none => rfl
      | some o =>
        obtain ⟨o', q⟩ := J.base.there a o z (by rw [hex]; exact fun z => nomatch z)
        rw [hIa] at q
        cases q
    have np' : ∀ p ∈ X.pn ++ pins, p.1 ≠ a := fun p hp z => by
      have q := (J.pin p hp).1
      rw [z, hIa] at q
      cases q
    have S3 := J3.suite he3 hd3 na nL nF
    refine wpAny_handleBy_cons (codeAny_handlers_test ?_) (by intro q; cases q)
    have LT : PySem.W.Looks (model X.prog X.w) h3 (typeOf (.ref a)) cls := fun A Q E s k q => wpAny_typeOf_ref (k _ _ he3) (by rw [hz3.1]; exact q)
    have LM := PySem.W.exm_one (M := model X.prog X.w) (J3.kIn) LT hb1
    have test : ∀ {Q : Value → Shared → Prop} {E : Value → Shared → Prop}, Q c { s' with heap := h3 } → wpAny (model X.prog X.w) (X.A.mark (some (.ref a))) (eval (.Name x np) X.env) Q E { s' with heap := h3 } := fun {Q E} q => by
      obtain ⟨hg, hdbg, hm | ⟨hm, hv, hnn⟩⟩ := hc
      · exact ld_glob (X := X.suite a ((a, oe3) :: (X.pn ++ pins))) S3 hg hm q hdbg
      · exact ld_blt (X := X.suite a ((a, oe3) :: (X.pn ++ pins))) S3 hg hm hv q hnn hdbg
    refine test (LM.here ?_)
    refine codeAny_handlers_suite_as ?_
    refine HandSPX.lands_againZ fl3 fun h4 fl4 up4 => ?_
    have J4 : Inv X pins σ' H' { s' with heap := h4 } := J.landed nb fl4.1 ((up.trans up3).trans up4) os ag
    obtain ⟨oe4, vs4, he4, hz4, hd4⟩ := fl4.there
    have S4 := Inv.suite0 (Inv.adopt J4 he4 hz4 hd4 na h0 nL np') a
    refine store_ok (X := X.suite a (X.pn ++ pins)) (v := .ref a) S4 hN hi hloc rfl (fun s5 S5 => ?_) (.inr hln)
    refine wpAny_mono ((hsu a (X.pn ++ pins)).run [] s5 _ _ _ S5 (hyes a na)) (fun f s6 hsp => ?_) (fun _ _ z => False.elim z)
    have end_ : ∀ {σ6 : L2.St} {H6 : Hp} {Q : Shared → Prop}, Inv (X.suite a (X.pn ++ pins)) [] σ6 H6 s6 → (∀ s7, Inv X pins (σ6.set i none) H6 s7 → Q s7) →
        wpAny (model X.prog X.w) X.A (do bindName X.env n .none; unbindBehindTheSuite X.env n pos') (fun _ s7 => Q s7) X.xe s6 := fun {σ6 H6 Q} S6 hq => gone_ok (Inv.unsuite0 S6 ok) hN hi hln hq
    cases f with
    | next =>
      obtain ⟨σ6, H6, S6, q6⟩ := hsp
      exact end_ S6 fun s7 J7 => ⟨_, _, J7, q6⟩
    | brk =>
      obtain ⟨σ6, H6, S6, q6⟩ := hsp
      exact end_ S6 fun s7 J7 => ⟨_, _, J7, q6⟩
    | cont =>
      obtain ⟨σ6, H6, S6, q6⟩ := hsp
      exact end_ S6 fun s7 J7 => ⟨_, _, J7, q6⟩
    | ret u =>
      obtain ⟨v6, σ6, H6, S6, r6, q6⟩ := hsp
      exact end_ S6 fun s7 J7 => ⟨_, _, _, J7, r6, q6⟩
  · cases f with
    | next =>
      obtain ⟨σ', H', J', q⟩ := hsp
      exact wpAny_execs_nil ⟨σ', H', J'.ofTry ok, q⟩
    | brk =>
      obtain ⟨σ', H', J', q⟩ := hsp
      exact ⟨σ', H', J'.ofTry ok, q⟩
    | cont =>
      obtain ⟨σ', H', J', q⟩ := hsp
      exact ⟨σ', H', J'.ofTry ok, q⟩
    | ret u =>
      obtain ⟨v, σ', H', J', r, q⟩ := hsp
      exact ⟨v, σ', H', J'.ofTry ok, r, q⟩
/-- what the classes of errors have -/
structure XcC (K : PySem.W.Frag) (C : Addr) : Prop where
  ga : PySem.W.findIn K (.ref C) "__getattribute__" = some (some (.builtin "BaseException.__getattribute__"))
  gg : PySem.W.findIn K (.ref C) "__getattr__" = some none
  exC : PySem.W.subIn K (.ref C) (.type "BaseException") = some true
  hdC : PySem.W.hasDictIn K C = true
def tXfld (K : PySem.W.Frag) (te : TE) (f : Str) : TE := fun σ H Q => te σ H fun x H1 => ∃ (a C dd : Addr) (fs : List (Str × V)) (v : V), x = .ref a ∧ H1 a = some (ErO a (.ref C) (some dd)) ∧ XcC K C ∧ PySem.W.findIn K (.ref C) f = some none ∧ H1 dd = some (.xd fs) ∧ fs.lookup f = some v ∧ Q v H1
theorem pe_xfld {X : Cx} {K : PySem.W.Frag} {e : Expr} {te : TE} {pos : Pos} {f : Str} (he : PE X e te) (hb : attributeBase e f X.env (eval e X.env) = eval e X.env := by rfl) (hK : X.K = K := by rfl) : PE X (.Attribute e f pos) (tXfld K te f) := by
  subst hK
  refine ⟨fun pins s σ H Q I h => ?_⟩
  refine attr_of hb (thn (he.run pins s σ H _ I h) fun u s1 hh => ?_)
  obtain ⟨x, H1, I1, rx, a, C, dd, fs, v, ex, ea0, T, hno, ea, l, q⟩ := hh
  subst ex
  obtain rfl : u = Value.ref a := rx
  obtain ⟨oe, vs, ha, hz, hd⟩ := erO_at I1.hok ea0
  have hx : ObjOk X.prog X.w H1 s1.heap dd (.xd fs) := I1.hok dd _ ea
  obtain ⟨mA, hns, hr⟩ := hx
  obtain ⟨od, ho, hl⟩ := lookIn_ns hns
  obtain ⟨u, hu, ru⟩ := RelO.some_of (v := v) (o := mA f) (by rw [← l]; exact hr f)
  have J : PySem.W.InstAt s1.heap a oe C (some od) := ⟨ha, hz.1, by unfold PySem.W.notCls; rw [hd] <;> rfl, by rw [hz.2]; exact ho⟩
  exact HandSPX.exc_get I1.kIn J T.ga T.gg T.exC (PySem.W.findObj_own T.hdC hno rfl (by rw [hl, hu])) (handed_of ru) ⟨v, H1, I1.tok _, ru, q⟩
end My
namespace My
open PySem PySem.Spec PyProof.Rows L2
section
variable {K : PySem.W.Frag} {A A' A2 : List Addr} {M M' M2 : Addr → Prop} {H H' H2 : Hp} {v w : V} {d e : D} {vs ws : List V} {ds es : List D} {a p : Addr} {o : HO}
theorem Go.refl : Go A M H A M H := ⟨fun _ _ h => h, fun _ h => .inl h, fun _ _ _ h => h⟩
mutual
theorem RepD.goP (hn : ∀ a, AM A' M' a → AM A M a ∨ H a = none) (hp : ∀ a o, ¬ AM A M a → H a = some o → H' a = some o) : ∀ {d : D} {v : V}, pureD d = true → RepD K A M H v d → RepD K A' M' H' v d
  | .non, _, _, h => h
  | .bl _, _, _, h => h
  | .int _, _, _, h => h
  | .str _, _, _, h => h
  | .ty _, _, _, h => h
  | .tup _, _, q, ⟨p, vs, e, h, r⟩ => ⟨p, vs, e, h.imp (fun h => ⟨h.1.imp (fun z => hp _ _ h.2 z) (fun ⟨w, z⟩ => ⟨w, hp _ _ h.2 z⟩), rd_lift hn h.1 h.2⟩) id, RepL.goP hn hp q r⟩
  | .lst _, _, q, ⟨p, vs, e, h, r⟩ => ⟨p, vs, e, ⟨hp _ _ h.2 h.1, rd_lift hn (.inl h.1) h.2⟩, RepL.goP hn hp q r⟩
  | .wl _, _, q, ⟨p, vs, e, h, r⟩ => ⟨p, vs, e, h.imp (fun h => ⟨h.1.imp (fun z => hp _ _ h.2 z) (fun ⟨w, z⟩ => ⟨w, hp _ _ h.2 z⟩), rd_lift hn h.1 h.2⟩) id, RepL.goP hn hp q r⟩
  | .ref _, _, q, _ => nomatch q
  | .cls _, _, _, h => h
  | .obj _ _ _, _, q, ⟨p, x, vs, e, h, l, r⟩ => ⟨p, x, vs, e, ⟨hp _ _ h.2 h.1, rd_lift hn (.inl h.1) h.2⟩, l, RepL.goP hn hp q r⟩
  | .dic _ _ _, _, q, ⟨p, vs, e, h, l, r⟩ => ⟨p, vs, e, ⟨⟨h.1.1.imp (fun z => hp _ _ h.2 z) (fun ⟨w, z⟩ => ⟨w, hp _ _ h.2 z⟩), fun z => hp _ _ h.2 (h.1.2 z)⟩, rd_lift hn h.1.1 h.2⟩, l, RepL.goP hn hp q r⟩
  | .err _ _ _, _, q, ⟨p, od, vs, e, h, hq, l0, l, r⟩ => ⟨p, od, vs, e, ⟨hp _ _ h.2 h.1, rd_lift hn (.inl h.1) h.2⟩, fun q z => ⟨hp _ _ (hq q z).2 (hq q z).1, rd_lift hn (.inl (hq q z).1) (hq q z).2⟩, l0, l, RepL.goP hn hp q r⟩
  | .fn _ _ _ _ _ _, _, q, ⟨e, h, vs, s, r⟩ => ⟨e, ⟨hp _ _ h.2 h.1, rd_lift hn (.inl h.1) h.2⟩, vs, s, RepL.goP hn hp q r⟩
  | .any, _, _, h => h
theorem RepL.goP (hn : ∀ a, AM A' M' a → AM A M a ∨ H a = none) (hp : ∀ a o, ¬ AM A M a → H a = some o → H' a = some o) : ∀ {ds : List D} {vs : List V}, pureL ds = true → RepL K A M H vs ds → RepL K A' M' H' vs ds
  | [], _, _, h => h
  | _ :: _, _, q, ⟨v, r, e, h, t⟩ => ⟨v, r, e, RepD.goP hn hp (Bool.and_eq_true _ _ |>.mp q).1 h, RepL.goP hn hp (Bool.and_eq_true _ _ |>.mp q).2 t⟩
end
theorem RepL.one (h : RepD K A M H v d) : RepL K A M H [v] [d] := ⟨v, [], rfl, h, rfl⟩
theorem RepL.get : ∀ {ds : List D} {vs : List V} {i : Nat} {d : D}, RepL K A M H vs ds → ds[i]? = some d → ∃ v, vs[i]? = some v ∧ RepD K A M H v d
  | [], _, _, _, _, h => nomatch h
  | _ :: _, _, 0, _, ⟨v, r, e, h, t⟩, h2 => by cases h2; rw [e]; exact ⟨v, rfl, h⟩
  | _ :: _, _, i + 1, _, ⟨v, r, e, h, t⟩, h2 => by rw [e]; exact RepL.get (i := i) t h2
theorem RepL.drop : ∀ {ds : List D} {vs : List V} (n : Nat), RepL K A M H vs ds → RepL K A M H (vs.drop n) (ds.drop n)
  | _, _, 0, h => h
  | [], _, n + 1, h => by rw [show _ = [] from h]; rfl
  | _ :: _, _, n + 1, ⟨v, r, e, h, t⟩ => by rw [e]; exact RepL.drop n t
theorem RepL.take : ∀ {ds : List D} {vs : List V} (n : Nat), RepL K A M H vs ds → RepL K A M H (vs.take n) (ds.take n)
  | _, _, 0, h => rfl
  | [], _, n + 1, h => by rw [show _ = [] from h]; rfl
  | _ :: _, _, n + 1, ⟨v, r, e, h, t⟩ => by rw [e]; exact ⟨v, _, rfl, h, RepL.take n t⟩
theorem RepL.erase : ∀ {ds : List D} {vs : List V} (n : Nat), RepL K A M H vs ds → RepL K A M H (vs.eraseIdx n) (ds.eraseIdx n)
  | [], _, n, h => by rw [show _ = [] from h]; rfl
  | _ :: _, _, 0, ⟨v, r, e, h, t⟩ => by rw [e]; exact t
  | _ :: _, _, n + 1, ⟨v, r, e, h, t⟩ => by rw [e]; exact ⟨v, _, rfl, h, RepL.erase n t⟩
theorem pureL_app : ∀ {ds es : List D}, pureL (ds ++ es) = (pureL ds && pureL es)
  | [], _ => by simp [pureL]
  | d :: ds, es => by rw [List.cons_append, pureL, pureL, pureL_app, Bool.and_assoc]
theorem cellHO_code {K : PySem.W.Frag} {x a : Addr} {vs : List V} {q : Str} {c : Cell} (h : cellHO K x vs c = LamX.CodeO a q) : False := by
  unfold LamX.CodeO at h
  cases c with
  | dic t ks ds => cases t <;> cases h
  | _ => cases h
theorem tabS_code {H : Hp} {a p : Addr} {q q' : Str} (h : LamX.TabS H a q) (e : H p = some (LamX.CodeO p q')) : a ≠ p := fun z => by
  obtain ⟨ps, h1, _⟩ := h
  subst z
  rw [h1] at e
  unfold LamX.CodeO at e
  cases e
theorem CellRep.noCode {K : PySem.W.Frag} {A : List Addr} {M : Addr → Prop} {H : Hp} {a p : Addr} {q : Str} {c : Cell} (h : CellRep K A M H a c) (e : H p = some (LamX.CodeO p q)) : a ≠ p := by
  rcases h with ⟨_, q', _, _, h1⟩ | ⟨x, vs, e1, _⟩
  · exact tabS_code h1 e
  · intro z
    subst z
    rw [e1] at e
    exact cellHO_code (Option.some.inj e)
theorem CellRep.get {K : PySem.W.Frag} {A : List Addr} {M : Addr → Prop} {H : Hp} {a : Addr} {c : Cell} (h : CellRep K A M H a c) (hc : ∀ x q, c ≠ .tbl x q := by intro x q z; cases z) : ∃ x vs, H a = some (cellHO K x vs c) ∧ RepL K A M H vs (cellDs c) ∧ pureL (cellDs c) = true ∧ cellGood c = true := by
  rcases h with ⟨x, q, e, _⟩ | h
  · exact absurd e (hc x q)
  · exact h
variable {μ μ' μ2 : Store} {k : Nat}
theorem Ok.fresh (h : Ok K A M μ H) (hp : H p = none) : ¬ AM A M p := fun z => h.alive z hp
theorem Fut.refl : Fut A H A H := ⟨⟨[], by simp⟩, fun a h => .inl h, fun _ _ _ h => h⟩
theorem Fut.newO (hp : H p = none) : Fut A H A (upd H p o) := Fut.ex (Evl.Ex.new hp)
/-- a new thing that is numbered; c, o: what it is -/
theorem Ok.cellNew {c : Cell} {x : Addr} (h : Ok K A M μ H) (hp : H p = none) (r : RepL K A M H vs (cellDs c)) (q : pureL (cellDs c) = true) (gd : cellGood c = true) : Ok K (A ++ [p]) M (μ ++ [c]) (upd H p (cellHO K x vs c)) ∧ Fut A H (A ++ [p]) (upd H p (cellHO K x vs c)) := by
  have f : Fut A H (A ++ [p]) (upd H p (cellHO K x vs c)) := ⟨⟨[p], rfl⟩, fun a ha => (List.mem_append.mp ha).imp id fun z => by rw [List.mem_singleton.mp z]; exact hp, fun a o _ e => by
    have ne : a ≠ p := fun z => by rw [z, hp] at e; cases e
    rw [upd_ne ne]
    exact e⟩
  refine ⟨⟨?_, by simp [h.len], fun k a c' h1 h2 => ?_, fun a m => ?_, fun a ha m => ?_, fun a m q z => ?_⟩, f⟩
  · rw [List.nodup_append]
    refine ⟨h.nd, by simp, fun a ha b hb => ?_⟩
    rw [List.mem_singleton.mp hb]
    exact fun z => h.alive (.inl ha) (by rw [z]; exact hp)
  · by_cases hk : k < A.length
    · rw [List.getElem?_append_left hk] at h1
      rw [List.getElem?_append_left (h.len ▸ hk)] at h2
      have hr := h.rep k a _ h1 h2
      have ne : a ≠ p := fun z => hr.alive (by rw [z]; exact hp)
      exact hr.stay f.go (upd_ne ne) fun c q z => by rw [upd_ne (ne_of_none z hp)]; exact z
    · rw [List.getElem?_append_right (by omega)] at h1
      rw [List.getElem?_append_right (by rw [← h.len]; omega), ← h.len] at h2
      cases hj : k - A.length with
      | zero =>
        rw [hj] at h1 h2
        cases h1; cases h2
        exact .inr ⟨x, vs, upd_same, RepL.go f.go r, q, gd⟩
      | succ j =>
        rw [hj] at h1
        cases h1
  · by_cases z : a = p
    · rw [z, upd_same]; exact fun z => nomatch z
    · rw [upd_ne z]; exact h.al a m
  · rcases List.mem_append.mp ha with z | z
    · exact h.dis a z m
    · rw [List.mem_singleton.mp z] at m
      exact h.al p m hp
  · have ne : a ≠ p := fun y => h.al a m (y ▸ hp)
    rw [upd_ne ne] at z
    exact h.nc a m q z
/-- a numbered thing changes -/
theorem Ok.cellSet {c : Cell} {x : Addr} (h : Ok K A M μ H) (ha : A[k]? = some a) (r : RepL K A M H vs (cellDs c)) (q : pureL (cellDs c) = true) (gd : cellGood c = true) : Ok K A M (μ.set k c) (upd H a (cellHO K x vs c)) ∧ Fut A H A (upd H a (cellHO K x vs c)) := by
  have hA : a ∈ A := List.mem_of_getElem? ha
  have f : Fut A H A (upd H a (cellHO K x vs c)) := ⟨⟨[], by simp⟩, fun a h => .inl h, fun b o hb e => by
    have ne : b ≠ a := fun z => hb (z ▸ hA)
    rw [upd_ne ne]
    exact e⟩
  refine ⟨⟨h.nd, by rw [List.length_set]; exact h.len, fun j b c' h1 h2 => ?_, fun b m => ?_, h.dis, fun b m q z => h.nc b m q (by rw [upd_ne (fun (y : b = a) => h.dis a hA (by rw [← y]; exact m))] at z; exact z)⟩, f⟩
  · by_cases e : k = j
    · subst e
      rw [ha] at h1
      cases h1
      have hl := (List.getElem?_eq_some_iff.mp ha).1
      rw [List.getElem?_set_self (h.len ▸ hl)] at h2
      cases h2
      exact .inr ⟨x, vs, upd_same, RepL.go f.go r, q, gd⟩
    · rw [List.getElem?_set_ne e] at h2
      have hr := h.rep j b _ h1 h2
      have ne : b ≠ a := fun z => by
        subst z
        have l1 := (List.getElem?_eq_some_iff.mp ha).1
        have l2 := (List.getElem?_eq_some_iff.mp h1).1
        have ee : A[k] = A[j] := by rw [(List.getElem?_eq_some_iff.mp ha).2, (List.getElem?_eq_some_iff.mp h1).2]
        rcases Nat.lt_or_gt_of_ne e with z | z
        · exact List.pairwise_iff_getElem.mp h.nd k j l1 l2 z ee
        · exact List.pairwise_iff_getElem.mp h.nd j k l2 l1 z ee.symm
      obtain ⟨ca, _, hca⟩ : ∃ c0, μ[k]? = some c0 ∧ CellRep K A M H a c0 := by
        have hl := (List.getElem?_eq_some_iff.mp ha).1
        have hm : μ[k]? = some (μ[k]'(h.len ▸ hl)) := List.getElem?_eq_getElem _
        exact ⟨_, hm, h.rep k a _ ha hm⟩
      exact hr.stay f.go (upd_ne ne) fun c q z => by rw [upd_ne (hca.noCode z).symm]; exact z
  · by_cases z : b = a
    · rw [z, upd_same]; exact fun z => nomatch z
    · rw [upd_ne z]; exact h.al b m
/-- the last numbers are given up -/
theorem Ok.cellDrop {B : List Addr} (h : Ok K (A ++ B) M μ H) : Ok K A M (μ.take A.length) H := by
  have hn : ∀ a, AM A M a → AM (A ++ B) M a ∨ H a = none := fun a z => .inl (z.imp (fun z => List.mem_append_left _ z) id)
  have hl := h.len
  rw [List.length_append] at hl
  refine ⟨(List.nodup_append.mp h.nd).1, by rw [List.length_take]; omega, fun k a c h1 h2 => ?_, h.al, fun a ha => h.dis a (List.mem_append_left _ ha), h.nc⟩
  have hk := (List.getElem?_eq_some_iff.mp h1).1
  rw [List.getElem?_take_of_lt hk] at h2
  have h3 := h.rep k a c (by rw [List.getElem?_append_left hk]; exact h1) h2
  rcases h3 with z | ⟨x, vs, e1, e2, e3⟩
  · exact .inl z
  · exact .inr ⟨x, vs, e1, RepL.goP hn (fun _ _ _ z => z) e3.1 e2, e3⟩
/-- avoiding more, avoiding less -/
theorem Ok.less (h : Ok K A M' μ H) (hm : ∀ a, M a → M' a) : Ok K A M μ H := by
  have g : Go A M' H A M H := ⟨fun _ _ h => h, fun a z => .inl (z.imp id (hm a)), fun _ _ _ h => h⟩
  refine ⟨h.nd, h.len, fun k a c h1 h2 => ?_, fun a m => h.al a (hm a m), fun a ha m => h.dis a ha (hm a m), fun a m => h.nc a (hm a m)⟩
  exact (h.rep k a _ h1 h2).stay g rfl fun _ _ z => z
variable {σ : L2.St} {env : En}
theorem EnvRep.get (h : EnvRep K A M H σ env) {i : Nat} (e : env[i]? = some (some d)) : ∃ v, σ[i]? = some (some v) ∧ RepD K A M H v d := by
  rcases paired_get h i with ⟨x, y, h1, h2, h3⟩ | ⟨_, h2⟩
  · rw [e] at h2
    cases h2
    cases x with
    | none => exact h3.elim
    | some v => exact ⟨v, h1, h3⟩
  · rw [e] at h2; cases h2
def wipeE (env : En) : List Nat → En
  | [] => env
  | v :: vs => (wipeE env vs).set v none
theorem EnvRep.wipe (h : EnvRep K A M H σ env) : ∀ vs : List Nat, EnvRep K A M H (wipe σ vs) (wipeE env vs)
  | [] => h
  | v :: vs => paired_set (F := RepO K A M H) (x := none) (y := none) trivial v (EnvRep.wipe h vs)
theorem wipe_get (σ : L2.St) : ∀ (vs : List Nat) (i : Nat), (L2.wipe σ vs)[i]? = if i ∈ vs then (if i < σ.length then some none else none) else σ[i]?
  | [], i => by simp [L2.wipe]
  | v :: vs, i => by
    unfold L2.wipe
    rw [List.getElem?_set, wipe_get σ vs i, wipe_length]
    by_cases h : v = i
    · subst h
      simp
    · rw [if_neg h]
      have : (i ∈ v :: vs) ↔ i ∈ vs := by simp [Ne.symm h]
      simp only [this]
theorem wipe_wipe_set {vs : List Nat} {j : Nat} {o : Option V} (h : j ∈ vs) : L2.wipe (σ.set j o) vs = L2.wipe σ vs := by
  apply List.ext_getElem?
  intro i
  rw [wipe_get, wipe_get, List.length_set]
  by_cases hi : i ∈ vs
  · rw [if_pos hi, if_pos hi]
  · rw [if_neg hi, if_neg hi, List.getElem?_set_ne]
    exact fun z => hi (z ▸ h)
theorem wipe_idem {vs : List Nat} : L2.wipe (L2.wipe σ vs) vs = L2.wipe σ vs := by
  apply List.ext_getElem?
  intro i
  rw [wipe_get, wipe_get, wipe_length]
  by_cases hi : i ∈ vs
  · rw [if_pos hi, if_pos hi]
  · rw [if_neg hi]
end
end My
namespace My
open PySem PySem.Spec PyProof.Rows L2
theorem Rs.bind_ok {α β : Type} {r : Rs α} {f : α → Store → Rs β} {b : β} {μ : Store} (h : r.bind f = .ok b μ) : ∃ a μ1, r = .ok a μ1 ∧ f a μ1 = .ok b μ := by
  cases r with
  | ok a μ1 => exact ⟨a, μ1, rfl, h⟩
  | no => cases h
  | rz => cases h
theorem Rs.of_ok {α : Type} {o : Option α} {a : α} {μ μ' : Store} (h : Rs.of o μ = .ok a μ') : o = some a ∧ μ' = μ := by
  cases o with
  | some b => cases h; exact ⟨rfl, rfl⟩
  | none => cases h
def MP (M : Addr → Prop) (p : Addr) : Addr → Prop := fun a => M a ∨ a = p
def EvD (K : PySem.W.Frag) (te : TE) (m : Mo D) : Prop := ∀ (A : List Addr) (M : Addr → Prop) (μ : Store) (H : Hp) (σ : L2.St) (env : En) (d : D) (μ' : Store), Ok K A M μ H → EnvRep K A M H σ env → m env μ = .ok d μ' →
  ∀ Q : VK, (∀ v H' A', Fut A H A' H' → Ok K A' M μ' H' → RepD K A' M H' v d → Q v H') → te σ H Q
def EvB (K : PySem.W.Frag) (tt : TT) (m : Mo Bool) : Prop := ∀ (A : List Addr) (M : Addr → Prop) (μ : Store) (H : Hp) (σ : L2.St) (env : En) (b : Bool) (μ' : Store), Ok K A M μ H → EnvRep K A M H σ env → m env μ = .ok b μ' →
  ∀ Q : Bool → Hp → Prop, (∀ H' A', Fut A H A' H' → Ok K A' M μ' H' → Q b H') → tt σ H Q
def EvS (K : PySem.W.Frag) (ta : TA) (m : Mo (List D)) : Prop := ∀ (A : List Addr) (M : Addr → Prop) (μ : Store) (H : Hp) (σ : L2.St) (env : En) (ds : List D) (μ' : Store), Ok K A M μ H → EnvRep K A M H σ env → m env μ = .ok ds μ' →
  ∀ Q : List V → Hp → Prop, (∀ vs H' A', Fut A H A' H' → Ok K A' M μ' H' → RepL K A' M H' vs ds → Q vs H') → ta σ H Q
/-- a new list -/
def EvC (K : PySem.W.Frag) (te : TE) (m : Mo (List D)) : Prop := ∀ (A : List Addr) (M : Addr → Prop) (μ : Store) (H : Hp) (σ : L2.St) (env : En) (ds : List D) (μ' : Store), Ok K A M μ H → EnvRep K A M H σ env → m env μ = .ok ds μ' →
  ∀ Q : VK, (∀ p vs H' A', Fut A H A' H' → Ok K A' (MP M p) μ' H' → H' p = some (.lst vs) → H p = none → RepL K A' (MP M p) H' vs ds → Q (.ref p) H') → te σ H Q
def EvO2 (K : PySem.W.Frag) (to : TO) (m : Mo (Option Int)) : Prop := ∀ (A : List Addr) (M : Addr → Prop) (μ : Store) (H : Hp) (σ : L2.St) (env : En) (b : Option Int) (μ' : Store), Ok K A M μ H → EnvRep K A M H σ env → m env μ = .ok b μ' →
  ∀ Q : Option Int → Hp → Prop, (∀ H' A', Fut A H A' H' → Ok K A' M μ' H' → Q b H') → to σ H Q
section
variable {K : PySem.W.Frag} {te ta tb tc : TE} {m ma mb mc : Mo D} {tt tu : TT} {mt mu : Mo Bool} {tas : TA} {mas : Mo (List D)} {cm : Mo (List D)}
theorem d_var (i : Nat) : EvD K (tVar i) (mVar i) := fun A M μ H σ env d μ' ok en h Q f => by
  unfold mVar at h
  split at h
  · rename_i e
    cases h
    obtain ⟨v, h1, h2⟩ := en.get e
    exact ⟨v, h1, f v H A .refl ok h2⟩
  · cases h
theorem d_c {v : V} {d : D} (h : ∀ A M H, RepD K A M H v d) : EvD K (tC v) (mC d) := fun A M μ H σ env d' μ' ok en e Q f => by
  cases e
  exact f v H A .refl ok (h A M H)
theorem d_int {i : Int} : EvD K (tC (.int i)) (mC (.int i)) := d_c fun _ _ _ => rfl
theorem d_bl {b : Bool} : EvD K (tC (.bl b)) (mC (.bl b)) := d_c fun _ _ _ => rfl
theorem d_non : EvD K (tC .non) (mC .non) := d_c fun _ _ _ => rfl
theorem d_str {x : Str} (l : Codes) (h : x = SX.S l) : EvD K (tC (.str x)) (mC (.str l)) := d_c fun _ _ _ => by rw [h]; rfl
theorem d_ty {n : String} : EvD K (tC (.ty n)) (mC (.ty n)) := d_c fun _ _ _ => rfl
/-- a tuple of texts of the module's top -/
theorem repL_strs {A : List Addr} {M : Addr → Prop} {H : Hp} : ∀ (xs : List Codes), RepL K A M H (xs.map sv) (xs.map D.str)
  | [] => rfl
  | x :: xs => ⟨sv x, _, rfl, rfl, repL_strs xs⟩
def mFz (m : Mo (List D)) : Mo D := fun env μ => (m env μ).bind fun ds μ1 => .ok (.lst ds) μ1
def mCell (m : Mo (List D)) : Mo D := fun env μ => (m env μ).bind fun ds μ1 => if pureL ds = true then .ok (.ref μ1.length) (μ1 ++ [.lst ds]) else .no
theorem go_less {A : List Addr} {M : Addr → Prop} {H : Hp} {p : Addr} : Go A (MP M p) H A M H := ⟨fun _ _ h => h, fun a z => .inl (z.imp id .inl), fun _ _ _ h => h⟩
theorem go_cell {A : List Addr} {M : Addr → Prop} {H : Hp} {p : Addr} : Go A (MP M p) H (A ++ [p]) M H := ⟨fun k a h => by rw [List.getElem?_append_left (List.getElem?_eq_some_iff.mp h).1]; exact h, fun a z => by
  rcases z with z | z
  · rcases List.mem_append.mp z with z | z
    · exact .inl (.inl z)
    · exact .inl (.inr (.inr (List.mem_singleton.mp z)))
  · exact .inl (.inr (.inl z)), fun _ _ _ h => h⟩
theorem d_fz (h : EvC K te cm) : EvD K te (mFz cm) := fun A M μ H σ env d μ' ok en e Q f => by
  obtain ⟨ds, μ1, e1, e2⟩ := Rs.bind_ok e
  cases e2
  refine h A M μ H σ env _ _ ok en e1 Q fun p vs H' A' fu ok' hp h0 r => ?_
  refine f _ H' A' fu (ok'.less fun a m => .inl m) ⟨p, vs, rfl, ⟨hp, fun z => ?_⟩, RepL.go go_less r⟩
  rcases z with z | z
  · exact ok'.dis p z (.inr rfl)
  · exact ok.al p z h0
theorem Ok.thaw {A : List Addr} {M : Addr → Prop} {μ : Store} {H : Hp} {p x : Addr} {vs : List V} {c : Cell} (ok : Ok K A (MP M p) μ H) (hp : H p = some (cellHO K x vs c)) (hm : ¬ M p) (r : RepL K A (MP M p) H vs (cellDs c)) (q : pureL (cellDs c) = true) (gd : cellGood c = true) : Ok K (A ++ [p]) M (μ ++ [c]) H := by
  have hpA : p ∉ A := fun z => ok.dis p z (.inr rfl)
  refine ⟨?_, by simp [ok.len], fun k a c h1 h2 => ?_, fun a m => ok.al a (.inl m), fun a ha m => ?_, fun a m => ok.nc a (.inl m)⟩
  · rw [List.nodup_append]
    refine ⟨ok.nd, by simp, fun a ha b hb => ?_⟩
    rw [List.mem_singleton.mp hb]
    exact fun z => hpA (z ▸ ha)
  · by_cases hk : k < A.length
    · rw [List.getElem?_append_left hk] at h1
      rw [List.getElem?_append_left (ok.len ▸ hk)] at h2
      exact (ok.rep k a _ h1 h2).stay go_cell rfl fun _ _ z => z
    · rw [List.getElem?_append_right (by omega)] at h1
      rw [List.getElem?_append_right (by rw [← ok.len]; omega), ← ok.len] at h2
      cases hj : k - A.length with
      | zero =>
        rw [hj] at h1 h2
        cases h1; cases h2
        exact .inr ⟨x, vs, hp, RepL.go go_cell r, q, gd⟩
      | succ j =>
        rw [hj] at h1
        cases h1
  · rcases List.mem_append.mp ha with z | z
    · exact ok.dis a z (.inl m)
    · rw [List.mem_singleton.mp z] at m
      exact hm m
theorem d_cell (h : EvC K te cm) : EvD K te (mCell cm) := fun A M μ H σ env d μ' ok en e Q f => by
  obtain ⟨ds, μ1, e1, e2⟩ := Rs.bind_ok e
  split at e2
  · rename_i hq
    cases e2
    refine h A M μ H σ env ds μ1 ok en e1 Q fun p vs H' A' fu ok' hp h0 r => ?_
    refine f _ H' (A' ++ [p]) ⟨?_, fun a ha => ?_, fu.pr⟩ (ok'.thaw (x := 0) (c := .lst ds) hp (fun z => ok.al p z h0) r hq rfl) ⟨p, rfl, ?_⟩
    · obtain ⟨B, rfl⟩ := fu.pre
      exact ⟨B ++ [p], by simp⟩
    · rcases List.mem_append.mp ha with z | z
      · exact fu.new a z
      · rw [List.mem_singleton.mp z]
        exact .inr h0
    · rw [← ok'.len]
      simp
  · cases e2
theorem s_nil : EvS K tNil mNil := fun A M μ H σ env ds μ' ok en e Q f => by
  cases e
  exact f [] H A .refl ok rfl
theorem s_cons (h : EvD K ta ma) (hr : EvS K tas mas) : EvS K (tCons ta tas) (mCons ma mas) := fun A M μ H σ env ds μ' ok en e Q f => by
  obtain ⟨d, μ1, e1, e2⟩ := Rs.bind_ok e
  obtain ⟨r, μ2, e3, e4⟩ := Rs.bind_ok e2
  cases e4
  refine h A M μ H σ env d μ1 ok en e1 _ fun v H1 A1 f1 ok1 r1 => ?_
  refine hr A1 M μ1 H1 σ env r _ ok1 (en.go f1.go) e3 _ fun vs H2 A2 f2 ok2 r2 => ?_
  exact f _ H2 A2 (f1.trans f2) ok2 ⟨v, vs, rfl, RepD.go f2.go r1, r2⟩
def mTup (m : Mo (List D)) : Mo D := fun env μ => (m env μ).bind fun ds μ1 => if ds.length ≤ 100000 then .ok (.tup ds) μ1 else .no
theorem d_tup (h : EvS K tas mas) : EvD K (tTup tas) (mTup mas) := fun A M μ H σ env d μ' ok en e Q f => by
  obtain ⟨ds, μ1, e1, e2⟩ := Rs.bind_ok e
  split at e2
  · rename_i hl
    cases e2
    refine h A M μ H σ env _ _ ok en e1 _ fun vs H1 A1 f1 ok1 r1 => ⟨by rw [r1.len]; exact Evl.sz_of hl, fun p hp => ?_⟩
    exact f _ _ A1 (f1.trans (.newO hp)) (ok1.new hp) ⟨p, vs, rfl, .of upd_same (ok1.fresh hp), RepL.go (Fut.newO hp).go r1⟩
  · cases e2
/-- a heap with a new list -/
theorem newC {A A1 : List Addr} {M : Addr → Prop} {μ : Store} {H H1 : Hp} {p : Addr} {vs : List V} {ds : List D} {Q : VK} (fu : Fut A H A1 H1) (ok : Ok K A1 M μ H1) (h0 : Ok K A M μ0 H) (hp : H1 p = none) (r : RepL K A1 M H1 vs ds)
    (f : ∀ p vs H' A', Fut A H A' H' → Ok K A' (MP M p) μ H' → H' p = some (.lst vs) → H p = none → RepL K A' (MP M p) H' vs ds → Q (.ref p) H') : Q (.ref p) (upd H1 p (.lst vs)) := by
  have hpA := ok.fresh hp
  have g : Go A1 M H1 A1 (MP M p) (upd H1 p (.lst vs)) := ⟨fun _ _ h => h, fun a z => by
    rcases z with z | z | z
    · exact .inl (.inl z)
    · exact .inl (.inr z)
    · rw [z]; exact .inr hp, fun a o hm e => by
    have ne : a ≠ p := fun z => by rw [z, hp] at e; cases e
    rw [upd_ne ne]; exact e⟩
  refine f p vs _ A1 (fu.trans (.newO hp)) ⟨ok.nd, ok.len, fun k a c h1 h2 => ?_, fun a m => ?_, fun a ha m => ?_, fun a m q z => ?_⟩ upd_same ?_ (RepL.go g r)
  · have hr := ok.rep k a _ h1 h2
    have ne : a ≠ p := fun z => hr.alive (by rw [z]; exact hp)
    exact hr.stay g (upd_ne ne) fun c q z => by rw [upd_ne (ne_of_none z hp)]; exact z
  · by_cases z : a = p
    · rw [z, upd_same]; exact fun z => nomatch z
    · rw [upd_ne z]; exact ok.al a (m.resolve_right z)
  · rcases m with m | m
    · exact ok.dis a ha m
    · exact hpA (.inl (m ▸ ha))
  · by_cases y : a = p
    · rw [y, upd_same] at z; unfold LamX.CodeO at z; cases z
    · rw [upd_ne y] at z; exact ok.nc a (m.resolve_right y) q z
  · cases e : H p with
    | none => rfl
    | some o =>
      by_cases z : p ∈ A
      · obtain ⟨B, rfl⟩ := fu.pre
        exact absurd (.inl (List.mem_append_left _ z)) hpA
      · rw [fu.pr p o z e] at hp; cases hp
def mLst (m : Mo (List D)) : Mo (List D) := fun env μ => (m env μ).bind fun ds μ1 => if ds.length ≤ 100000 then .ok ds μ1 else .no
theorem c_lst (h : EvS K tas mas) : EvC K (tLst tas) (mLst mas) := fun A M μ H σ env ds' μ' ok en e Q f => by
  obtain ⟨ds, μ1, e1, e2⟩ := Rs.bind_ok e
  split at e2
  · rename_i hl
    cases e2
    refine h A M μ H σ env _ _ ok en e1 _ fun vs H1 A1 f1 ok1 r1 => ⟨by rw [r1.len]; exact Evl.sz_of hl, fun p hp => ?_⟩
    exact newC f1 ok1 ok hp r1 f
  · cases e2
def mTest (m : Mo D) : Mo Bool := fun env μ => (m env μ).bind fun d μ1 => match d with
  | .bl b => .ok b μ1
  | _ => .no
theorem b_test (h : EvD K te m) : EvB K (tTest te) (mTest m) := fun A M μ H σ env b μ' ok en e Q f => by
  obtain ⟨d, μ1, e1, e2⟩ := Rs.bind_ok e
  split at e2
  · cases e2
    exact h A M μ H σ env _ _ ok en e1 _ fun v H1 A1 f1 ok1 r1 => ⟨b, r1, f H1 A1 f1 ok1⟩
  · cases e2
theorem b_B (h : EvD K te m) : EvB K (tB te) (mTest m) := b_test h
def mAnd (a b : Mo Bool) : Mo Bool := fun env μ => (a env μ).bind fun c μ1 => if c = true then b env μ1 else .ok false μ1
def mOr (a b : Mo Bool) : Mo Bool := fun env μ => (a env μ).bind fun c μ1 => if c = true then .ok true μ1 else b env μ1
def mNot (a : Mo Bool) : Mo Bool := fun env μ => (a env μ).bind fun c μ1 => .ok (!c) μ1
theorem b_and (h : EvB K tt mt) (h2 : EvB K tu mu) : EvB K (tAnd tt tu) (mAnd mt mu) := fun A M μ H σ env b μ' ok en e Q f => by
  obtain ⟨c, μ1, e1, e2⟩ := Rs.bind_ok e
  refine h A M μ H σ env c μ1 ok en e1 _ fun H1 A1 f1 ok1 => ?_
  cases c with
  | true => exact h2 A1 M μ1 H1 σ env b μ' ok1 (en.go f1.go) e2 Q fun H2 A2 f2 ok2 => f H2 A2 (f1.trans f2) ok2
  | false => cases e2; exact f H1 A1 f1 ok1
theorem b_or (h : EvB K tt mt) (h2 : EvB K tu mu) : EvB K (tOr tt tu) (mOr mt mu) := fun A M μ H σ env b μ' ok en e Q f => by
  obtain ⟨c, μ1, e1, e2⟩ := Rs.bind_ok e
  refine h A M μ H σ env c μ1 ok en e1 _ fun H1 A1 f1 ok1 => ?_
  cases c with
  | true => cases e2; exact f H1 A1 f1 ok1
  | false => exact h2 A1 M μ1 H1 σ env b μ' ok1 (en.go f1.go) e2 Q fun H2 A2 f2 ok2 => f H2 A2 (f1.trans f2) ok2
theorem b_not (h : EvB K tt mt) : EvB K (tNot tt) (mNot mt) := fun A M μ H σ env b μ' ok en e Q f => by
  obtain ⟨c, μ1, e1, e2⟩ := Rs.bind_ok e
  cases e2
  exact h A M μ H σ env c _ ok en e1 _ fun H1 A1 f1 ok1 => f H1 A1 f1 ok1
theorem b_yes : EvB K tYes (mC true) := fun A M μ H σ env b μ' ok en e Q f => by
  cases e
  exact f H A .refl ok
def mAndV (a b : Mo D) : Mo D := fun env μ => (a env μ).bind fun c μ1 => match c with
  | .bl true => b env μ1
  | .bl false => .ok (.bl false) μ1
  | _ => .no
def mOrV (a b : Mo D) : Mo D := fun env μ => (a env μ).bind fun c μ1 => match c with
  | .bl true => .ok (.bl true) μ1
  | .bl false => b env μ1
  | _ => .no
theorem d_andV (h : EvD K ta ma) (h2 : EvD K tb mb) : EvD K (tAndV ta tb) (mAndV ma mb) := fun A M μ H σ env d μ' ok en e Q f => by
  obtain ⟨c, μ1, e1, e2⟩ := Rs.bind_ok e
  refine h A M μ H σ env c μ1 ok en e1 _ fun v H1 A1 f1 ok1 r1 => ?_
  split at e2
  · exact ⟨true, r1, h2 A1 M μ1 H1 σ env d μ' ok1 (en.go f1.go) e2 Q fun v H2 A2 f2 ok2 r2 => f v H2 A2 (f1.trans f2) ok2 r2⟩
  · cases e2
    exact ⟨false, r1, f _ H1 A1 f1 ok1 rfl⟩
  · cases e2
theorem d_orV (h : EvD K ta ma) (h2 : EvD K tb mb) : EvD K (tOrV ta tb) (mOrV ma mb) := fun A M μ H σ env d μ' ok en e Q f => by
  obtain ⟨c, μ1, e1, e2⟩ := Rs.bind_ok e
  refine h A M μ H σ env c μ1 ok en e1 _ fun v H1 A1 f1 ok1 r1 => ?_
  split at e2
  · cases e2
    exact ⟨true, r1, f _ H1 A1 f1 ok1 rfl⟩
  · exact ⟨false, r1, h2 A1 M μ1 H1 σ env d μ' ok1 (en.go f1.go) e2 Q fun v H2 A2 f2 ok2 r2 => f v H2 A2 (f1.trans f2) ok2 r2⟩
  · cases e2
def mIf {α : Type} (t : Mo Bool) (a b : Mo α) : Mo α := fun env μ => (t env μ).bind fun c μ1 => if c = true then a env μ1 else b env μ1
theorem d_if (h : EvB K tt mt) (h1 : EvD K ta ma) (h2 : EvD K tb mb) : EvD K (tIf tt ta tb) (mIf mt ma mb) := fun A M μ H σ env d μ' ok en e Q f => by
  obtain ⟨c, μ1, e1, e2⟩ := Rs.bind_ok e
  refine h A M μ H σ env c μ1 ok en e1 _ fun H1 A1 f1 ok1 => ?_
  cases c with
  | true => exact h1 A1 M μ1 H1 σ env d μ' ok1 (en.go f1.go) e2 Q fun v H2 A2 f2 ok2 r2 => f v H2 A2 (f1.trans f2) ok2 r2
  | false => exact h2 A1 M μ1 H1 σ env d μ' ok1 (en.go f1.go) e2 Q fun v H2 A2 f2 ok2 r2 => f v H2 A2 (f1.trans f2) ok2 r2
def OpD (K : PySem.W.Frag) (r : R2) (f : Store → D → D → Option D) : Prop := ∀ (A : List Addr) (M : Addr → Prop) (μ : Store) (H : Hp) (x y : V) (dx dy d : D), Ok K A M μ H → RepD K A M H x dx → RepD K A M H y dy → f μ dx dy = some d →
  ∀ Q : VK, (∀ z H', Evl.Ex H H' → RepD K A M H' z d → Q z H') → r x y H Q
def mOp (f : Store → D → D → Option D) (a b : Mo D) : Mo D := fun env μ => (a env μ).bind fun x μ1 => (b env μ1).bind fun y μ2 => Rs.of (f μ2 x y) μ2
theorem d_op {r : R2} {g : Store → D → D → Option D} (ho : OpD K r g) (h : EvD K ta ma) (h2 : EvD K tb mb) : EvD K (tOp r ta tb) (mOp g ma mb) := fun A M μ H σ env d μ' ok en e Q f => by
  obtain ⟨x, μ1, e1, e2⟩ := Rs.bind_ok e
  obtain ⟨y, μ2, e3, e4⟩ := Rs.bind_ok e2
  obtain ⟨e5, rfl⟩ := Rs.of_ok e4
  refine h A M μ H σ env x μ1 ok en e1 _ fun v H1 A1 f1 ok1 r1 => h2 A1 M μ1 H1 σ env y _ ok1 (en.go f1.go) e3 _ fun w H2 A2 f2 ok2 r2 => ?_
  exact ho A2 M _ H2 v w x y d ok2 (RepD.go f2.go r1) r2 e5 Q fun z H3 ex r3 => f z H3 A2 ((f1.trans f2).trans (.ex ex)) (ok2.ex ex) r3
/-- two comparisons -/
def mChain (f g : Store → D → D → Option D) (a b c : Mo D) : Mo D := fun env μ => (a env μ).bind fun x μ1 => (b env μ1).bind fun y μ2 => match f μ2 x y with
  | some (.bl true) => (c env μ2).bind fun z μ3 => Rs.of (g μ3 y z) μ3
  | some (.bl false) => .ok (.bl false) μ2
  | _ => .no
theorem d_chain {r r' : R2} {g g' : Store → D → D → Option D} (ho : OpD K r g) (ho' : OpD K r' g') (h : EvD K ta ma) (h2 : EvD K tb mb) (h3 : EvD K tc mc) : EvD K (tChain r r' ta tb tc) (mChain g g' ma mb mc) := fun A M μ H σ env d μ' ok en e Q f => by
  obtain ⟨x, μ1, e1, e2⟩ := Rs.bind_ok e
  obtain ⟨y, μ2, e3, e4⟩ := Rs.bind_ok e2
  refine h A M μ H σ env x μ1 ok en e1 _ fun v H1 A1 f1 ok1 r1 => h2 A1 M μ1 H1 σ env y _ ok1 (en.go f1.go) e3 _ fun w H2 A2 f2 ok2 r2 => ?_
  split at e4
  · rename_i eg
    refine ho A2 M _ H2 v w x y _ ok2 (RepD.go f2.go r1) r2 eg _ fun z H3 ex r3 => ⟨true, r3, ?_⟩
    obtain ⟨z2, μ3, e5, e6⟩ := Rs.bind_ok e4
    obtain ⟨e7, rfl⟩ := Rs.of_ok e6
    have f3 : Fut A H A2 H3 := (f1.trans f2).trans (.ex ex)
    refine h3 A2 M μ2 H3 σ env z2 _ (ok2.ex ex) (en.go f3.go) e5 _ fun u H4 A4 f4 ok4 r4 => ?_
    exact ho' A4 M _ H4 w u y z2 d ok4 (RepD.go ((Fut.ex ex).trans f4).go r2) r4 e7 Q fun z H5 ex5 r5 => f z H5 A4 ((f3.trans f4).trans (.ex ex5)) (ok4.ex ex5) r5
  · rename_i eg
    cases e4
    refine ho A2 M _ H2 v w x y _ ok2 (RepD.go f2.go r1) r2 eg _ fun z H3 ex r3 => ⟨false, r3, ?_⟩
    exact f _ H3 A2 ((f1.trans f2).trans (.ex ex)) (ok2.ex ex) rfl
  · cases e4
/-- calls by values -/
def CbD (K : PySem.W.Frag) (r : List V → Hp → VK → Prop) (f : Store → List D → Option D) : Prop := ∀ (A : List Addr) (M : Addr → Prop) (μ : Store) (H : Hp) (vs : List V) (ds : List D) (d : D), Ok K A M μ H → RepL K A M H vs ds → f μ ds = some d →
  ∀ Q : VK, (∀ z H', Evl.Ex H H' → RepD K A M H' z d → Q z H') → r vs H Q
def mCb (f : Store → List D → Option D) (m : Mo (List D)) : Mo D := fun env μ => (m env μ).bind fun ds μ1 => Rs.of (f μ1 ds) μ1
theorem d_cb {r : List V → Hp → VK → Prop} {g : Store → List D → Option D} (ho : CbD K r g) (h : EvS K tas mas) : EvD K (tCB r tas) (mCb g mas) := fun A M μ H σ env d μ' ok en e Q f => by
  obtain ⟨ds, μ1, e1, e2⟩ := Rs.bind_ok e
  obtain ⟨e5, rfl⟩ := Rs.of_ok e2
  exact h A M μ H σ env ds _ ok en e1 _ fun vs H1 A1 f1 ok1 r1 => ho A1 M _ H1 vs ds d ok1 r1 e5 Q fun z H3 ex r3 => f z H3 A1 (f1.trans (.ex ex)) (ok1.ex ex) r3
/-- calls that make a list -/
def CcD (K : PySem.W.Frag) (r : List V → Hp → VK → Prop) (f : Store → List D → Option (List D)) : Prop := ∀ (A : List Addr) (M : Addr → Prop) (μ : Store) (H : Hp) (vs : List V) (ds es : List D), Ok K A M μ H → RepL K A M H vs ds → f μ ds = some es →
  ∀ Q : VK, (∀ p ws, H p = none → RepL K A M H ws es → Q (.ref p) (upd H p (.lst ws))) → r vs H Q
def mCc (f : Store → List D → Option (List D)) (m : Mo (List D)) : Mo (List D) := fun env μ => (m env μ).bind fun ds μ1 => Rs.of (f μ1 ds) μ1
theorem c_cb {r : List V → Hp → VK → Prop} {g : Store → List D → Option (List D)} (ho : CcD K r g) (h : EvS K tas mas) : EvC K (tCB r tas) (mCc g mas) := fun A M μ H σ env d μ' ok en e Q f => by
  obtain ⟨ds, μ1, e1, e2⟩ := Rs.bind_ok e
  obtain ⟨e5, rfl⟩ := Rs.of_ok e2
  exact h A M μ H σ env ds _ ok en e1 _ fun vs H1 A1 f1 ok1 r1 => ho A1 M _ H1 vs ds d ok1 r1 e5 Q fun p ws hp r3 => newC f1 ok1 ok hp r3 f
/-- methods of texts -/
def MtD (K : PySem.W.Frag) (r : V → List V → Hp → VK → Prop) (f : Store → D → List D → Option D) : Prop := ∀ (A : List Addr) (M : Addr → Prop) (μ : Store) (H : Hp) (x : V) (dx : D) (vs : List V) (ds : List D) (d : D), Ok K A M μ H → RepD K A M H x dx → RepL K A M H vs ds → f μ dx ds = some d →
  ∀ Q : VK, (∀ z H', Evl.Ex H H' → RepD K A M H' z d → Q z H') → r x vs H Q
def isStr : D → Bool
  | .str _ => true
  | _ => false
def mBm (f : Store → D → List D → Option D) (o : Mo D) (m : Mo (List D)) : Mo D := fun env μ => (o env μ).bind fun x μ0 => if isStr x = true then (m env μ0).bind fun ds μ1 => Rs.of (f μ1 x ds) μ1 else .no
theorem tyV_str {x : D} {v : V} {A : List Addr} {M : Addr → Prop} {H : Hp} (h : isStr x = true) (r : RepD K A M H v x) : tyV K "str" v H := by
  cases x <;> cases h
  rw [show v = _ from r]
  rfl
theorem d_bm {r : V → List V → Hp → VK → Prop} {g : Store → D → List D → Option D} (ho : MtD K r g) (h0 : EvD K te m) (h : EvS K tas mas) : EvD K (tBM K "str" r te tas) (mBm g m mas) := fun A M μ H σ env d μ' ok en e Q f => by
  obtain ⟨x, μ0, e0, e⟩ := Rs.bind_ok e
  split at e
  · rename_i hs
    obtain ⟨ds, μ1, e1, e2⟩ := Rs.bind_ok e
    obtain ⟨e5, rfl⟩ := Rs.of_ok e2
    refine h0 A M μ H σ env x μ0 ok en e0 _ fun v H0 A0 f0 ok0 r0 => ⟨tyV_str hs r0, ?_⟩
    exact h A0 M μ0 H0 σ env ds _ ok0 (en.go f0.go) e1 _ fun vs H1 A1 f1 ok1 r1 => ho A1 M _ H1 v x vs ds d ok1 (RepD.go f1.go r0) r1 e5 Q fun z H3 ex r3 => f z H3 A1 ((f0.trans f1).trans (.ex ex)) (ok1.ex ex) r3
  · cases e
theorem d_bm0 {r : V → List V → Hp → VK → Prop} {g : Store → D → List D → Option D} (ho : MtD K r g) (h0 : EvD K te m) : EvD K (tBM0 K "str" r te) (mBm g m mNil) := fun A M μ H σ env d μ' ok en e Q f => by
  obtain ⟨x, μ0, e0, e⟩ := Rs.bind_ok e
  split at e
  · rename_i hs
    obtain ⟨ds, μ1, e1, e2⟩ := Rs.bind_ok e
    cases e1
    obtain ⟨e5, rfl⟩ := Rs.of_ok e2
    refine h0 A M μ H σ env x _ ok en e0 _ fun v H0 A0 f0 ok0 r0 => ⟨tyV_str hs r0, ?_⟩
    exact ho A0 M _ H0 v x [] [] d ok0 r0 rfl e5 Q fun z H3 ex r3 => f z H3 A0 (f0.trans (.ex ex)) (ok0.ex ex) r3
  · cases e
/-- .. that make a list -/
def McD (K : PySem.W.Frag) (r : V → List V → Hp → VK → Prop) (f : Store → D → List D → Option (List D)) : Prop := ∀ (A : List Addr) (M : Addr → Prop) (μ : Store) (H : Hp) (x : V) (dx : D) (vs : List V) (ds es : List D), Ok K A M μ H → RepD K A M H x dx → RepL K A M H vs ds → f μ dx ds = some es →
  ∀ Q : VK, (∀ p ws, H p = none → RepL K A M H ws es → Q (.ref p) (upd H p (.lst ws))) → r x vs H Q
def mBc (f : Store → D → List D → Option (List D)) (o : Mo D) (m : Mo (List D)) : Mo (List D) := fun env μ => (o env μ).bind fun x μ0 => if isStr x = true then (m env μ0).bind fun ds μ1 => Rs.of (f μ1 x ds) μ1 else .no
theorem c_bm {r : V → List V → Hp → VK → Prop} {g : Store → D → List D → Option (List D)} (ho : McD K r g) (h0 : EvD K te m) (h : EvS K tas mas) : EvC K (tBM K "str" r te tas) (mBc g m mas) := fun A M μ H σ env d μ' ok en e Q f => by
  obtain ⟨x, μ0, e0, e⟩ := Rs.bind_ok e
  split at e
  · rename_i hs
    obtain ⟨ds, μ1, e1, e2⟩ := Rs.bind_ok e
    obtain ⟨e5, rfl⟩ := Rs.of_ok e2
    refine h0 A M μ H σ env x μ0 ok en e0 _ fun v H0 A0 f0 ok0 r0 => ⟨tyV_str hs r0, ?_⟩
    exact h A0 M μ0 H0 σ env ds _ ok0 (en.go f0.go) e1 _ fun vs H1 A1 f1 ok1 r1 => ho A1 M _ H1 v x vs ds d ok1 (RepD.go f1.go r0) r1 e5 Q fun p ws hp r3 => newC (f0.trans f1) ok1 ok hp r3 f
  · cases e
def mNoP : Mo (Option Int) := fun _ μ => .ok none μ
def mPart (m : Mo D) : Mo (Option Int) := fun env μ => (m env μ).bind fun d μ1 => match d with
  | .int i => .ok (some i) μ1
  | _ => .no
theorem o_none : EvO2 K tNoPart mNoP := fun A M μ H σ env b μ' ok en e Q f => by
  cases e
  exact f H A .refl ok
theorem o_some (h : EvD K te m) : EvO2 K (tPart te) (mPart m) := fun A M μ H σ env b μ' ok en e Q f => by
  obtain ⟨d, μ1, e1, e2⟩ := Rs.bind_ok e
  split at e2
  · cases e2
    exact h A M μ H σ env _ _ ok en e1 _ fun v H1 A1 f1 ok1 r1 => ⟨_, r1, f H1 A1 f1 ok1⟩
  · cases e2
def SlD (K : PySem.W.Frag) (r : V → Option Int → Option Int → Hp → VK → Prop) (f : Store → D → Option Int → Option Int → Option D) : Prop := ∀ (A : List Addr) (M : Addr → Prop) (μ : Store) (H : Hp) (x : V) (dx : D) (lo hi : Option Int) (d : D), Ok K A M μ H → RepD K A M H x dx → f μ dx lo hi = some d →
  ∀ Q : VK, (∀ z H', Evl.Ex H H' → RepD K A M H' z d → Q z H') → r x lo hi H Q
def mSl (f : Store → D → Option Int → Option Int → Option D) (m : Mo D) (lo hi : Mo (Option Int)) : Mo D := fun env μ => (m env μ).bind fun x μ0 => (lo env μ0).bind fun l μ1 => (hi env μ1).bind fun h μ2 => Rs.of (f μ2 x l h) μ2
theorem d_sl {tl th : TO} {ml mh : Mo (Option Int)} {r : V → Option Int → Option Int → Hp → VK → Prop} {g : Store → D → Option Int → Option Int → Option D} (ho : SlD K r g) (h : EvD K te m) (hl : EvO2 K tl ml) (hh : EvO2 K th mh) : EvD K (tSl r te tl th) (mSl g m ml mh) := fun A M μ H σ env d μ' ok en e Q f => by
  obtain ⟨x, μ0, e0, e⟩ := Rs.bind_ok e
  obtain ⟨l, μ1, e1, e⟩ := Rs.bind_ok e
  obtain ⟨u, μ2, e2, e⟩ := Rs.bind_ok e
  obtain ⟨e5, rfl⟩ := Rs.of_ok e
  refine h A M μ H σ env x μ0 ok en e0 _ fun v H0 A0 f0 ok0 r0 => hl A0 M μ0 H0 σ env l μ1 ok0 (en.go f0.go) e1 _ fun H1 A1 f1 ok1 => hh A1 M μ1 H1 σ env u _ ok1 (en.go (f0.trans f1).go) e2 _ fun H2 A2 f2 ok2 => ?_
  exact ho A2 M _ H2 v x l u d ok2 (RepD.go (f1.trans f2).go r0) e5 Q fun z H3 ex r3 => f z H3 A2 (((f0.trans f1).trans f2).trans (.ex ex)) (ok2.ex ex) r3
end
end My
namespace My
open PySem PySem.Spec PyProof.Rows L2
theorem clB_eq {a b : Addr × Addr × Str × L2.St × List Bool} (h : clB a b = true) : a = b := by
  unfold clB at h
  exact of_decide_eq_true h
theorem clB_refl (a : Addr × Addr × Str × L2.St × List Bool) : clB a a = true := by
  unfold clB
  exact decide_eq_true rfl
mutual
theorem D.beq_eq : ∀ {a b : D}, D.beq a b = true → a = b
  | .non, b, h => by cases b <;> first | rfl | cases h
  | .bl a, b, h => by cases b <;> first | cases h; done | (rw [beq_iff_eq.mp (show (_ == _) = true from h)])
  | .int a, b, h => by cases b <;> first | cases h; done | (rw [beq_iff_eq.mp (show (_ == _) = true from h)])
  | .str a, b, h => by cases b <;> first | cases h; done | (rw [beq_iff_eq.mp (show (_ == _) = true from h)])
  | .ty a, b, h => by cases b <;> first | cases h; done | (rw [beq_iff_eq.mp (show (_ == _) = true from h)])
  | .tup a, b, h => by cases b <;> first | cases h; done | (rw [D.beqL_eq (show D.beqL _ _ = true from h)])
  | .lst a, b, h => by cases b <;> first | cases h; done | (rw [D.beqL_eq (show D.beqL _ _ = true from h)])
  | .wl a, b, h => by cases b <;> first | cases h; done | (rw [D.beqL_eq (show D.beqL _ _ = true from h)])
  | .ref a, b, h => by cases b <;> first | cases h; done | (rw [beq_iff_eq.mp (show (_ == _) = true from h)])
  | .cls a, b, h => by cases b <;> first | cases h; done | (rw [beq_iff_eq.mp (show (_ == _) = true from h)])
  | .obj a a2 a3, b, h => by
    cases b with
    | obj b b2 b3 =>
      obtain ⟨h1, h2⟩ := (Bool.and_eq_true _ _).mp (show ((a == b && a2 == b2) && D.beqL a3 b3) = true from h)
      obtain ⟨h3, h4⟩ := (Bool.and_eq_true _ _).mp h1
      rw [beq_iff_eq.mp h3, beq_iff_eq.mp h4, D.beqL_eq h2]
    | _ => cases h
  | .dic a a2 a3, b, h => by
    cases b with
    | dic b b2 b3 =>
      obtain ⟨h1, h2⟩ := (Bool.and_eq_true _ _).mp (show ((a == b && D.beqL a2 b2) && D.beqL a3 b3) = true from h)
      obtain ⟨h3, h4⟩ := (Bool.and_eq_true _ _).mp h1
      rw [beq_iff_eq.mp h3, D.beqL_eq h4, D.beqL_eq h2]
    | _ => cases h
  | .err a a2 a3, b, h => by
    cases b with
    | err b b2 b3 =>
      obtain ⟨h1, h2⟩ := (Bool.and_eq_true _ _).mp (show ((a == b && a2 == b2) && D.beqL a3 b3) = true from h)
      obtain ⟨h3, h4⟩ := (Bool.and_eq_true _ _).mp h1
      rw [beq_iff_eq.mp h3, beq_iff_eq.mp h4, D.beqL_eq h2]
    | _ => cases h
  | .fn a1 a2 a3 a4 a5 a6, b, h => by
    cases b with
    | fn b1 b2 b3 b4 b5 b6 =>
      obtain ⟨h1, h2⟩ := (Bool.and_eq_true _ _).mp (show (clB (a1, a2, a3, a4, a5) (b1, b2, b3, b4, b5) && D.beqL a6 b6) = true from h)
      have e := clB_eq h1
      simp only [Prod.mk.injEq] at e
      obtain ⟨e1, e2, e3, e4, e5⟩ := e
      rw [e1, e2, e3, e4, e5, D.beqL_eq h2]
    | _ => cases h
  | .any, b, h => by cases b <;> first | rfl | cases h
theorem D.beqL_eq : ∀ {a b : List D}, D.beqL a b = true → a = b
  | [], [], _ => rfl
  | [], _ :: _, h => nomatch h
  | _ :: _, [], h => nomatch h
  | a :: as, b :: bs, h => by
    have h := (Bool.and_eq_true _ _).mp h
    rw [D.beq_eq h.1, D.beqL_eq h.2]
end
mutual
theorem D.beq_refl : ∀ (a : D), D.beq a a = true
  | .non => rfl
  | .bl a => beq_self_eq_true a
  | .int a => beq_self_eq_true a
  | .str a => beq_self_eq_true a
  | .ty a => beq_self_eq_true a
  | .tup a => D.beqL_refl a
  | .lst a => D.beqL_refl a
  | .wl a => D.beqL_refl a
  | .ref a => beq_self_eq_true a
  | .cls a => beq_self_eq_true a
  | .obj a b c => by
    show ((a == a && b == b) && D.beqL c c) = true
    rw [beq_self_eq_true, beq_self_eq_true, D.beqL_refl c]; rfl
  | .dic a b c => by
    show ((a == a && D.beqL b b) && D.beqL c c) = true
    rw [beq_self_eq_true, D.beqL_refl b, D.beqL_refl c]; rfl
  | .err a b c => by
    show ((a == a && b == b) && D.beqL c c) = true
    rw [beq_self_eq_true, beq_self_eq_true, D.beqL_refl c]; rfl
  | .fn a1 a2 a3 a4 a5 a6 => by
    show (clB (a1, a2, a3, a4, a5) (a1, a2, a3, a4, a5) && D.beqL a6 a6) = true
    rw [clB_refl, D.beqL_refl a6]; rfl
  | .any => rfl
theorem D.beqL_refl : ∀ (a : List D), D.beqL a a = true
  | [] => rfl
  | a :: as => (Bool.and_eq_true _ _).mpr ⟨D.beq_refl a, D.beqL_refl as⟩
end
def StD (K : PySem.W.Frag) (W : Option WX) (ts : TS) (m : MS) : Prop := ∀ (A : List Addr) (M : Addr → Prop) (μ : Store) (H : Hp) (σ : L2.St) (env : En) (E : Ends), Ok K A M μ H → EnvRep K A M H σ env → Post K W A M H E (m env μ) → ts E σ H
section
variable {K : PySem.W.Frag} {W : Option WX} {te ta tb tc : TE} {m ma mb mc : Mo D} {tt tu : TT} {mt mu : Mo Bool} {tas : TA} {mas : Mo (List D)} {cm : Mo (List D)} {t1 t2 t3 : TS} {s1 s2 s3 : MS} {A A' : List Addr} {M : Addr → Prop} {H H' : Hp} {E : Ends} {r : Ro}
def sSeq (a b : MS) : MS := fun env μ => match a env μ with
  | .nx e m => b e m
  | r => r
theorem t_next : StD K W tNext sNext := fun A M μ H σ env E ok en p => p σ H A .refl ok en
theorem t_seq (h1 : StD K W t1 s1) (h2 : StD K W t2 s2) : StD K W (tSeq t1 t2) (sSeq s1 s2) := fun A M μ H σ env E ok en p => by
  refine h1 A M μ H σ env { E with nx := t2 E } ok en ?_
  unfold sSeq at p
  cases h : s1 env μ with
  | nx e m =>
    rw [h] at p
    exact fun σ2 H2 A2 f2 ok2 en2 => h2 A2 M m H2 σ2 e E ok2 en2 (Post.mono f2 p)
  | rt d m => rw [h] at p; exact p
  | bk e m => rw [h] at p; exact p
  | ct e m => rw [h] at p; exact p
  | no => rw [h] at p; exact p
  | rz c ns ds e m => rw [h] at p; exact p
def sRet (m : Mo D) : MS := fun env μ => match m env μ with
  | .ok d μ' => .rt d μ'
  | _ => .no
theorem t_ret (h : EvD K te m) : StD K W (tRet te) (sRet m) := fun A M μ H σ env E ok en p => by
  unfold sRet at p
  cases e : m env μ with
  | ok d μ' => rw [e] at p; exact h A M μ H σ env d μ' ok en e _ p
  | no => rw [e] at p; exact p.elim
  | rz => rw [e] at p; exact p.elim
def sIf (t : Mo Bool) (a b : MS) : MS := fun env μ => match t env μ with
  | .ok c μ1 => if c = true then a env μ1 else b env μ1
  | _ => .no
theorem t_if (h : EvB K tt mt) (h1 : StD K W t1 s1) (h2 : StD K W t2 s2) : StD K W (tIfS tt t1 t2) (sIf mt s1 s2) := fun A M μ H σ env E ok en p => by
  unfold sIf at p
  cases e : mt env μ with
  | ok c μ1 =>
    rw [e] at p
    refine h A M μ H σ env c μ1 ok en e _ fun H1 A1 f1 ok1 => ?_
    cases c with
    | true => exact h1 A1 M μ1 H1 σ env E ok1 (en.go f1.go) (Post.mono f1 p)
    | false => exact h2 A1 M μ1 H1 σ env E ok1 (en.go f1.go) (Post.mono f1 p)
  | no => rw [e] at p; exact p.elim
  | rz => rw [e] at p; exact p.elim
def sDrop (m : Mo D) : MS := fun env μ => match m env μ with
  | .ok _ μ' => .nx env μ'
  | _ => .no
theorem t_drop (h : EvD K te m) : StD K W (tDrop te) (sDrop m) := fun A M μ H σ env E ok en p => by
  unfold sDrop at p
  cases e : m env μ with
  | ok d μ' => rw [e] at p; exact h A M μ H σ env d μ' ok en e _ fun v H1 A1 f1 ok1 _ => p σ H1 A1 f1 ok1 (en.go f1.go)
  | no => rw [e] at p; exact p.elim
  | rz => rw [e] at p; exact p.elim
def GD (K : PySem.W.Frag) (g : TG) (js : List Nat) (tg : Tg) : Prop := ∀ (A : List Addr) (M : Addr → Prop) (H : Hp) (v : V) (d : D) (σ : L2.St) (env env' : En), EnvRep K A M H σ env → RepD K A M H v d → tg d env = some env' →
  ∃ σ', EnvRep K A M H σ' env' ∧ (∀ vs : List Nat, (∀ j ∈ js, j ∈ vs) → wipe σ' vs = wipe σ vs) ∧ ∀ Q : L2.St → Hp → Prop, Q σ' H → g v σ H Q
def GDs (K : PySem.W.Frag) (g : TGs) (js : List Nat) (tg : List D → En → Option En) : Prop := ∀ (A : List Addr) (M : Addr → Prop) (H : Hp) (vs : List V) (ds : List D) (σ : L2.St) (env env' : En), EnvRep K A M H σ env → RepL K A M H vs ds → tg ds env = some env' →
  ∃ σ', EnvRep K A M H σ' env' ∧ (∀ vs : List Nat, (∀ j ∈ js, j ∈ vs) → wipe σ' vs = wipe σ vs) ∧ ∀ Q : L2.St → Hp → Prop, Q σ' H → g vs σ H Q
def tgName (i : Nat) : Tg := fun d env => some (env.set i (some d))
def tgT (n : Nat) (f : List D → En → Option En) : Tg := fun d env => match d with
  | .tup ds => if ds.length = n then f ds env else none
  | _ => none
def tgNil : List D → En → Option En := fun ds env => match ds with
  | [] => some env
  | _ => none
def tgCons (t : Tg) (r : List D → En → Option En) : List D → En → Option En := fun ds env => match ds with
  | d :: ds => (t d env).bind (r ds)
  | [] => none
theorem g_name (i : Nat) : GD K (gName i) [i] (tgName i) := fun A M H v d σ env env' en r e => by
  cases e
  exact ⟨_, en.set i r, fun vs h => wipe_wipe_set (h i (List.mem_singleton.mpr rfl)), fun Q q => q⟩
theorem g_nil : GDs K gNil [] tgNil := fun A M H vs ds σ env env' en r e => by
  cases ds with
  | nil => cases e; exact ⟨σ, en, fun _ _ => rfl, fun Q q => ⟨r, q⟩⟩
  | cons => cases e
theorem g_cons {g : TG} {gs : TGs} {js ks : List Nat} {t : Tg} {tr : List D → En → Option En} (h : GD K g js t) (hr : GDs K gs ks tr) : GDs K (gCons g gs) (js ++ ks) (tgCons t tr) := fun A M H vs ds σ env env' en r e => by
  cases ds with
  | nil => cases e
  | cons d ds =>
    obtain ⟨v, rs, rfl, r1, r2⟩ := r
    obtain ⟨env1, e1, e2⟩ := Option.bind_eq_some_iff.mp (show (t d env).bind (tr ds) = some env' from e)
    obtain ⟨σ1, en1, w1, q1⟩ := h A M H v d σ env env1 en r1 e1
    obtain ⟨σ2, en2, w2, q2⟩ := hr A M H rs ds σ1 env1 env' en1 r2 e2
    exact ⟨σ2, en2, fun vs hv => (w2 vs fun j hj => hv j (List.mem_append_right _ hj)).trans (w1 vs fun j hj => hv j (List.mem_append_left _ hj)), fun Q q => ⟨v, rs, rfl, q1 _ (q2 Q q)⟩⟩
theorem g_tup {gs : TGs} {js : List Nat} {n : Nat} {tr : List D → En → Option En} (h : GDs K gs js tr) : GD K (gTup K n gs) js (tgT n tr) := fun A M H v d σ env env' en r e => by
  cases d <;> try cases e
  rename_i ds
  unfold tgT at e
  dsimp only at e
  split at e
  · rename_i hl
    obtain ⟨p, vs, rfl, hs, r⟩ := r
    obtain ⟨σ1, en1, w1, q1⟩ := h A M H vs ds σ env env' en r e
    exact ⟨σ1, en1, w1, fun Q q => ⟨p, vs, rfl, hs.sq, by rw [r.len]; exact hl, q1 Q q⟩⟩
  · cases e
def sAsg (m : Mo D) (t : Tg) : MS := fun env μ => match m env μ with
  | .ok d μ' => (match t d env with
    | some env' => .nx env' μ'
    | none => .no)
  | _ => .no
theorem t_asg {g : TG} {js : List Nat} {t : Tg} (h : EvD K te m) (hg : GD K g js t) : StD K W (tAsg te g) (sAsg m t) := fun A M μ H σ env E ok en p => by
  unfold sAsg at p
  cases e : m env μ with
  | ok d μ' =>
    rw [e] at p
    dsimp only at p
    refine h A M μ H σ env d μ' ok en e _ fun v H1 A1 f1 ok1 r1 => ?_
    cases e2 : t d env with
    | some env' =>
      rw [e2] at p
      obtain ⟨σ', en', _, q⟩ := hg A1 M H1 v d σ env env' (en.go f1.go) r1 e2
      exact q _ (p σ' H1 A1 f1 ok1 en')
    | none => rw [e2] at p; exact p.elim
  | no => rw [e] at p; exact p.elim
  | rz => rw [e] at p; exact p.elim
def sPar (i j : Nat) (m : Mo (List D)) : MS := fun env μ => match m env μ with
  | .ok [x, y] μ' => .nx ((env.set i (some x)).set j (some y)) μ'
  | _ => .no
theorem t_par {i j : Nat} (h : EvS K tas mas) : StD K W (tPar i j tas) (sPar i j mas) := fun A M μ H σ env E ok en p => by
  unfold sPar at p
  cases e : mas env μ with
  | ok ds μ' =>
    rw [e] at p
    refine h A M μ H σ env ds μ' ok en e _ fun vs H1 A1 f1 ok1 r1 => ?_
    match ds, r1, p with
    | [x, y], r1, p =>
      obtain ⟨v, r', rfl, h1, w, r2, rfl, h2, rfl⟩ := r1
      exact ⟨v, w, rfl, p _ H1 A1 f1 ok1 (((en.go f1.go).set i h1).set j h2)⟩
    | [], _, p => exact p.elim
    | [_], _, p => exact p.elim
    | _ :: _ :: _ :: _, _, p => exact p.elim
  | no => rw [e] at p; exact p.elim
  | rz => rw [e] at p; exact p.elim
structure ItOkD (K : PySem.W.Frag) (J : It) (items : List D) (gd : Gd) (A1 : List Addr) (M : Addr → Prop) (H1 : Hp) : Prop where
  go : ∀ i A' M' μ' H', (∀ a, M' a → M a ∨ H1 a = none) → Fut A1 H1 A' H' → Ok K A' M' μ' H' → gdOk gd μ' = true → i < items.length → J.go i H'
  yld : ∀ i A' M' μ' H' x H'' d, (∀ a, M' a → M a ∨ H1 a = none) → Fut A1 H1 A' H' → Ok K A' M' μ' H' → gdOk gd μ' = true → items[i]? = some d → J.yld i H' x H'' → Evl.Ex H' H'' ∧ RepD K A' M' H'' x d
  stop : ∀ A' M' μ' H', (∀ a, M' a → M a ∨ H1 a = none) → Fut A1 H1 A' H' → Ok K A' M' μ' H' → gdOk gd μ' = true → J.stop items.length H'
def ItD (K : PySem.W.Frag) (wi : TI) (m : Mo (List D × Gd)) : Prop := ∀ (A : List Addr) (M : Addr → Prop) (μ : Store) (H : Hp) (σ : L2.St) (env : En) (items : List D) (gd : Gd) (μ' : Store), Ok K A M μ H → EnvRep K A M H σ env → m env μ = .ok (items, gd) μ' →
  ∀ R : It → Hp → Prop, (∀ J H1 A1, Fut A H A1 H1 → Ok K A1 M μ' H1 → ItOkD K J items gd A1 M H1 → R J H1) → wi σ H R
def forGo (gd : Gd) (tg : Tg) (body : MS) : List D → En → Store → Ro
  | [], env, μ => if gdOk gd μ = true then .nx env μ else .no
  | d :: ds, env, μ => if gdOk gd μ = true then (match tg d env with
    | none => .no
    | some env1 => match body env1 μ with
      | .nx e m => forGo gd tg body ds e m
      | .ct e m => forGo gd tg body ds e m
      | .bk e m => .nx e m
      | .rt d m => .rt d m
      | .rz c ns ds e m => .rz c ns ds e m
      | .no => .no) else .no
def sFor (it : Mo (List D × Gd)) (tg : Tg) (body : MS) : MS := fun env μ => match it env μ with
  | .ok (items, gd) μ1 => forGo gd tg body items env μ1
  | _ => .no
theorem t_for {wi : TI} {it : Mo (List D × Gd)} {g : TG} {js : List Nat} {tg : Tg} (hi : ItD K wi it) (hg : GD K g js tg) (hb : StD K W t1 s1) : StD K W (tFor wi g t1) (sFor it tg s1) := fun A M μ H σ env E ok en p => by
  unfold sFor at p
  cases e : it env μ with
  | no => rw [e] at p; exact p.elim
  | rz => rw [e] at p; exact p.elim
  | ok r μ1 =>
    obtain ⟨items, gd⟩ := r
    rw [e] at p
    dsimp only at p
    refine hi A M μ H σ env items gd μ1 ok en e _ fun J H1 A1 f1 ok1 jt => ?_
    have hm : ∀ a, M a → M a ∨ H1 a = none := fun a h => .inl h
    refine ⟨fun i n σ' H' => n = items.length - i ∧ i ≤ items.length ∧ ∃ A' μ' env', Fut A1 H1 A' H' ∧ Ok K A' M μ' H' ∧ EnvRep K A' M H' σ' env' ∧ Post K W A' M H' E (forGo gd tg s1 (items.drop i) env' μ'), ⟨items.length, by simp, Nat.zero_le _, A1, μ1, env, .refl, ok1, en.go f1.go, Post.mono f1 p⟩, ?_⟩
    rintro i n σ' H' ⟨rfl, hle, A', μ', env', fu, ok', en', p'⟩
    by_cases hlt : i < items.length
    · have hget : items[i]? = some items[i] := List.getElem?_eq_getElem hlt
      rw [List.drop_eq_getElem_cons hlt] at p'
      unfold forGo at p'
      split at p'
      · rename_i hgd
        cases e1 : tg items[i] env' with
        | none => rw [e1] at p'; exact p'.elim
        | some env1 =>
          rw [e1] at p'
          dsimp only at p'
          refine .inr ⟨jt.go i A' M μ' H' hm fu ok' hgd hlt, fun σ2 H2 => ∃ A2 μ2 env2, Fut A1 H1 A2 H2 ∧ Ok K A2 M μ2 H2 ∧ EnvRep K A2 M H2 σ2 env2 ∧ Post K W A2 M H2 E (forGo gd tg s1 (items.drop (i + 1)) env2 μ2), fun σ2 H2 hn => ⟨items.length - (i + 1), by omega, rfl, by omega, hn⟩, fun x H'' hy => ?_⟩
          obtain ⟨ex, rx⟩ := jt.yld i A' M μ' H' x H'' _ hm fu ok' hgd hget hy
          have fe : Fut A' H' A' H'' := .ex ex
          obtain ⟨σ3, en3, _, q3⟩ := hg A' M H'' x _ σ' env' env1 (en'.go fe.go) rx e1
          refine q3 _ (hb A' M μ' H'' σ3 env1 _ (ok'.ex ex) en3 ?_)
          cases e2 : s1 env1 μ' with
          | nx en4 m4 => rw [e2] at p'; exact fun σ5 H5 A5 f5 ok5 en5 => ⟨A5, m4, en4, fu.trans (fe.trans f5), ok5, en5, Post.mono (fe.trans f5) p'⟩
          | ct en4 m4 => rw [e2] at p'; exact fun σ5 H5 A5 f5 ok5 en5 => ⟨A5, m4, en4, fu.trans (fe.trans f5), ok5, en5, Post.mono (fe.trans f5) p'⟩
          | bk en4 m4 => rw [e2] at p'; exact fun σ5 H5 A5 f5 ok5 en5 => p' σ5 H5 A5 (fe.trans f5) ok5 en5
          | rt d4 m4 => rw [e2] at p'; exact fun v H5 A5 f5 ok5 r5 => p' v H5 A5 (fe.trans f5) ok5 r5
          | rz => rw [e2] at p'; exact PostR.mono fe p'
          | no => rw [e2] at p'; exact p'.elim
      · exact p'.elim
    · have : i = items.length := by omega
      subst this
      rw [List.drop_of_length_le (Nat.le_refl _)] at p'
      unfold forGo at p'
      split at p'
      · rename_i hgd
        exact .inl ⟨jt.stop A' M μ' H' hm fu ok' hgd, p' σ' H' A' .refl ok' en'⟩
      · exact p'.elim
def whileGo (t : Mo Bool) (body : MS) : Nat → En → Store → Ro
  | 0, _, _ => .no
  | f + 1, env, μ => match t env μ with
    | .no => .no
    | .rz _ _ _ _ => .no
    | .ok c μ1 => if c = true then (match body env μ1 with
      | .nx e m => whileGo t body f e m
      | .ct e m => whileGo t body f e m
      | .bk e m => .nx e m
      | .rt d m => .rt d m
      | .rz c ns ds e m => .rz c ns ds e m
      | .no => .no) else .nx env μ1
def sWhile (fuel : Nat) (t : Mo Bool) (body : MS) : MS := fun env μ => whileGo t body fuel env μ
theorem t_while (fuel : Nat) (ht : EvB K tt mt) (hb : StD K W t1 s1) : StD K W (tWhile tt t1) (sWhile fuel mt s1) := fun A M μ H σ env E ok en p => by
  refine ⟨fun n σ' H' => ∃ A' μ' env', Fut A H A' H' ∧ Ok K A' M μ' H' ∧ EnvRep K A' M H' σ' env' ∧ Post K W A' M H' E (whileGo mt s1 n env' μ'), ⟨fuel, A, μ, env, .refl, ok, en, p⟩, ?_⟩
  rintro n σ' H' ⟨A', μ', env', fu, ok', en', p'⟩
  cases n with
  | zero => exact p'.elim
  | succ n =>
    unfold whileGo at p'
    cases e : mt env' μ' with
    | no => rw [e] at p'; exact p'.elim
    | rz => rw [e] at p'; exact p'.elim
    | ok c μ1 =>
      rw [e] at p'
      dsimp only at p'
      refine ht A' M μ' H' σ' env' c μ1 ok' en' e _ fun H1 A1 f1 ok1 => ?_
      cases c with
      | false => exact p' σ' H1 A1 f1 ok1 (en'.go f1.go)
      | true =>
        refine ⟨fun σ2 H2 => ∃ A2 μ2 env2, Fut A H A2 H2 ∧ Ok K A2 M μ2 H2 ∧ EnvRep K A2 M H2 σ2 env2 ∧ Post K W A2 M H2 E (whileGo mt s1 n env2 μ2), fun σ2 H2 hn => ⟨n, Nat.lt_succ_self n, hn⟩, ?_⟩
        refine hb A1 M μ1 H1 σ' env' _ ok1 (en'.go f1.go) ?_
        rw [if_pos rfl] at p'
        cases e2 : s1 env' μ1 with
        | nx en4 m4 => rw [e2] at p'; exact fun σ5 H5 A5 f5 ok5 en5 => ⟨A5, m4, en4, fu.trans (f1.trans f5), ok5, en5, Post.mono (f1.trans f5) p'⟩
        | ct en4 m4 => rw [e2] at p'; exact fun σ5 H5 A5 f5 ok5 en5 => ⟨A5, m4, en4, fu.trans (f1.trans f5), ok5, en5, Post.mono (f1.trans f5) p'⟩
        | bk en4 m4 => rw [e2] at p'; exact fun σ5 H5 A5 f5 ok5 en5 => p' σ5 H5 A5 (f1.trans f5) ok5 en5
        | rt d4 m4 => rw [e2] at p'; exact fun v H5 A5 f5 ok5 r5 => p' v H5 A5 (f1.trans f5) ok5 r5
        | rz => rw [e2] at p'; exact PostR.mono f1 p'
        | no => rw [e2] at p'; exact p'.elim
def lcGo (gd : Gd) (tg : Tg) (t : Mo Bool) (e : Mo D) (env0 : En) : List D → Store → Rs (List D)
  | [], μ => if gdOk gd μ = true then .ok [] μ else .no
  | d :: ds, μ => if gdOk gd μ = true then (match tg d env0 with
    | none => .no
    | some env1 => (t env1 μ).bind fun b μ1 => if b = true then (e env1 μ1).bind fun x μ2 => (lcGo gd tg t e env0 ds μ2).bind fun xs μ3 => .ok (x :: xs) μ3 else lcGo gd tg t e env0 ds μ1) else .no
def mLc (it : Mo (List D × Gd)) (tg : Tg) (t : Mo Bool) (e : Mo D) (vs : List Nat) : Mo (List D) := fun env μ => (it env μ).bind fun r μ1 => if r.1.length ≤ 50000 then lcGo r.2 tg t e (wipeE env vs) r.1 μ1 else .no
theorem Ok.updM {μ : Store} {p : Addr} {o : HO} (h : Ok K A M μ H) (hp : M p) (ho : ∀ q, o ≠ LamX.CodeO p q) : Ok K A M μ (upd H p o) := by
  have hpA : p ∉ A := fun z => h.dis p z hp
  have g : Go A M H A M (upd H p o) := ⟨fun _ _ h => h, fun a z => .inl z, fun a o' hm e => by
    have ne : a ≠ p := fun z => hm (.inr (z ▸ hp))
    rw [upd_ne ne]; exact e⟩
  refine ⟨h.nd, h.len, fun k a c h1 h2 => ?_, fun a m => ?_, h.dis, fun a m q z => ?_⟩
  · have ne : a ≠ p := fun z => hpA (z ▸ List.mem_of_getElem? h1)
    exact (h.rep k a _ h1 h2).stay g (upd_ne ne) fun c q z => by
      by_cases e : c = p
      · subst e; exact absurd z (h.nc _ hp q)
      · rw [upd_ne e]; exact z
  · by_cases z : a = p
    · rw [z, upd_same]; exact fun z => nomatch z
    · rw [upd_ne z]; exact h.al a m
  · by_cases y : a = p
    · rw [y, upd_same] at z; subst y; exact ho q (Option.some.inj z)
    · rw [upd_ne y] at z; exact h.nc a m q z
theorem go_updM {p : Addr} {o : HO} (hp : M p) : Go A M H A M (upd H p o) := ⟨fun _ _ h => h, fun a z => .inl z, fun a o' hm e => by
    have ne : a ≠ p := fun z => hm (.inr (z ▸ hp))
    rw [upd_ne ne]; exact e⟩
/-- a comprehension, its iterator judged at one heap alone -/
theorem c_lc_at {A : List Addr} {M : Addr → Prop} {μ : Store} {H : Hp} {σ : L2.St} {env : En} {wi : TI} {g : TG} {js vs : List Nat} {tg : Tg} {items : List D} {gd : Gd} {μ1 μ' : Store} {ds : List D} {Q : VK}
    (hi : ∀ R : It → Hp → Prop, (∀ J H1 A1, Fut A H A1 H1 → Ok K A1 M μ1 H1 → ItOkD K J items gd A1 M H1 → R J H1) → wi σ H R) (hg : GD K g js tg) (hjs : ∀ j ∈ js, j ∈ vs) (ht : EvB K tt mt) (he : EvD K te m)
    (ok : Ok K A M μ H) (en : EnvRep K A M H σ env) (hlen : items.length ≤ 50000) (e2 : lcGo gd tg mt m (wipeE env vs) items μ1 = .ok ds μ')
    (f : ∀ p vs H' A', Fut A H A' H' → Ok K A' (MP M p) μ' H' → H' p = some (.lst vs) → H p = none → RepL K A' (MP M p) H' vs ds → Q (.ref p) H') : tLc wi g tt te vs σ H Q := by
  refine hi _ fun J H1 A1 f1 ok1 jt Dl hD => ?_
  have hDA := ok1.fresh hD
  have hD0 : H Dl = none := by
    cases e : H Dl with
    | none => rfl
    | some o =>
      by_cases z : Dl ∈ A
      · obtain ⟨B, rfl⟩ := f1.pre
        exact absurd (.inl (List.mem_append_left _ z)) hDA
      · rw [f1.pr Dl o z e] at hD; cases hD
  have hm : ∀ a, MP M Dl a → M a ∨ H1 a = none := fun a h => h.imp id fun z => by rw [z]; exact hD
  have goN : ∀ {A' : List Addr} {H' : Hp}, Fut A1 H1 A' H' → Go A1 M H1 A' (MP M Dl) H' := fun {A' H'} fu => by
    have g := fu.go (M := M)
    refine ⟨g.ix, fun a z => ?_, g.pr⟩
    rcases z with z | z | z
    · exact g.new a (.inl z)
    · exact .inl (.inr z)
    · rw [z]; exact .inr hD
  have en1 := (en.go f1.go).wipe vs
  refine ⟨fun i n H' => n = items.length - i ∧ i ≤ items.length ∧ ∃ A' μ2 acc vacc rest, Fut A1 H1 A' H' ∧ Ok K A' (MP M Dl) μ2 H' ∧ H' Dl = some (.lst vacc) ∧ RepL K A' (MP M Dl) H' vacc acc ∧ acc.length ≤ i ∧ lcGo gd tg mt m (wipeE env vs) (items.drop i) μ2 = .ok rest μ' ∧ acc ++ rest = ds, ⟨items.length, by simp, Nat.zero_le _, A1, μ1, [], [], ds, .newO hD, ?_, upd_same, rfl, Nat.le_refl _, e2, rfl⟩, ?_⟩
  · have g : Go A1 M H1 A1 (MP M Dl) (upd H1 Dl (.lst [])) := goN (.newO hD)
    refine ⟨ok1.nd, ok1.len, fun k a c h1 h2 => ?_, fun a mm => ?_, fun a ha mm => ?_, fun a mm q z => ?_⟩
    · have hr := ok1.rep k a _ h1 h2
      have ne : a ≠ Dl := fun z => hr.alive (by rw [z]; exact hD)
      exact hr.stay g (upd_ne ne) fun c q z => by rw [upd_ne (ne_of_none z hD)]; exact z
    · by_cases z : a = Dl
      · rw [z, upd_same]; exact fun z => nomatch z
      · rw [upd_ne z]; exact ok1.al a (mm.resolve_right z)
    · rcases mm with mm | mm
      · exact ok1.dis a ha mm
      · exact hDA (.inl (mm ▸ ha))
    · by_cases y : a = Dl
      · rw [y, upd_same] at z; unfold LamX.CodeO at z; cases z
      · rw [upd_ne y] at z; exact ok1.nc a (mm.resolve_right y) q z
  · rintro i n H' ⟨rfl, hle, A', μ2, acc, vacc, rest, fu, ok', hv, rv, hal, e3, hds⟩
    by_cases hlt : i < items.length
    · have hget : items[i]? = some items[i] := List.getElem?_eq_getElem hlt
      rw [List.drop_eq_getElem_cons hlt] at e3
      unfold lcGo at e3
      split at e3
      · rename_i hgd
        cases e4 : tg items[i] (wipeE env vs) with
        | none => rw [e4] at e3; cases e3
        | some env1 =>
          rw [e4] at e3
          dsimp only at e3
          obtain ⟨b, μ3, e5, e6⟩ := Rs.bind_ok e3
          refine .inr ⟨jt.go i A' (MP M Dl) μ2 H' hm fu ok' hgd hlt, fun H2 => ∃ A2 μ2 acc vacc rest, Fut A1 H1 A2 H2 ∧ Ok K A2 (MP M Dl) μ2 H2 ∧ H2 Dl = some (.lst vacc) ∧ RepL K A2 (MP M Dl) H2 vacc acc ∧ acc.length ≤ i + 1 ∧ lcGo gd tg mt m (wipeE env vs) (items.drop (i + 1)) μ2 = .ok rest μ' ∧ acc ++ rest = ds, fun H2 hn => ⟨items.length - (i + 1), by omega, rfl, by omega, hn⟩, fun x H'' hy => ?_⟩
          obtain ⟨ex, rx⟩ := jt.yld i A' (MP M Dl) μ2 H' x H'' _ hm fu ok' hgd hget hy
          have fe : Fut A' H' A' H'' := .ex ex
          obtain ⟨σ3, en3, w3, q3⟩ := hg A' (MP M Dl) H'' x _ (wipe σ vs) (wipeE env vs) env1 (en1.go (goN (fu.trans fe))) rx e4
          refine q3 _ ⟨(w3 vs hjs).trans wipe_idem, ?_⟩
          refine ht A' (MP M Dl) μ2 H'' σ3 env1 b μ3 (ok'.ex ex) en3 e5 _ fun H3 A3 f3 ok3 => ?_
          have hD3 : H3 Dl = some (.lst vacc) := f3.pr _ _ (fun z => ok'.dis _ z (.inr rfl)) (ex _ _ hv)
          have rv3 : RepL K A3 (MP M Dl) H3 vacc acc := RepL.go (fe.trans f3).go rv
          cases b with
          | false =>
            exact ⟨A3, μ3, acc, vacc, rest, fu.trans (fe.trans f3), ok3, hD3, rv3, by omega, e6, hds⟩
          | true =>
            obtain ⟨y, μ4, e7, e8⟩ := Rs.bind_ok e6
            obtain ⟨ys, μ5, e9, e10⟩ := Rs.bind_ok e8
            cases e10
            refine he A3 (MP M Dl) μ3 H3 σ3 env1 y μ4 ok3 (en3.go f3.go) e7 _ fun yv H4 A4 f4 ok4 r4 => ?_
            have hD4 : H4 Dl = some (.lst vacc) := f4.pr _ _ (fun z => ok3.dis _ z (.inr rfl)) hD3
            have hMD : MP M Dl Dl := .inr rfl
            refine ⟨vacc, hD4, Evl.sz_lt (by rw [rv.len]; omega), A4, μ4, acc ++ [y], vacc ++ [yv], ys, ?_, ok4.updM hMD (fun q z => by unfold LamX.CodeO at z; cases z), upd_same, RepL.go (go_updM hMD) ((RepL.go f4.go rv3).app (.one r4)), by simp; omega, e9, by rw [← hds]; simp⟩
            have f5 := fu.trans (fe.trans (f3.trans f4))
            refine ⟨f5.pre, f5.new, fun a o ha hh => ?_⟩
            have ne : a ≠ Dl := fun z => by rw [z, hD] at hh; cases hh
            rw [upd_ne ne]
            exact f5.pr a o ha hh
      · cases e3
    · have : i = items.length := by omega
      subst this
      rw [List.drop_of_length_le (Nat.le_refl _)] at e3
      unfold lcGo at e3
      split at e3
      · rename_i hgd
        cases e3
        refine .inl ⟨jt.stop A' (MP M Dl) _ H' hm fu ok' hgd, ?_⟩
        rw [List.append_nil] at hds
        subst hds
        exact f Dl vacc H' A' (f1.trans fu) ok' hv hD0 rv
      · cases e3
theorem c_lc {wi : TI} {it : Mo (List D × Gd)} {g : TG} {js vs : List Nat} {tg : Tg} (hi : ItD K wi it) (hg : GD K g js tg) (hjs : ∀ j ∈ js, j ∈ vs) (ht : EvB K tt mt) (he : EvD K te m) : EvC K (tLc wi g tt te vs) (mLc it tg mt m vs) := fun A M μ H σ env ds μ' ok en e Q f => by
  obtain ⟨⟨items, gd⟩, μ1, e1, e2⟩ := Rs.bind_ok e
  split at e2
  · rename_i hlen
    exact c_lc_at (fun R hR => hi A M μ H σ env items gd μ1 ok en e1 R hR) hg hjs ht he ok en hlen e2 f
  · cases e2
end
end My
namespace My
open PySem PySem.Spec PyProof.Rows L2
def cellOf (μ : Store) (k : Nat) : Option (List D) := match μ[k]? with
  | some (.lst ds) => some ds
  | _ => none
def asL (μ : Store) : D → Option (List D)
  | .lst xs => some xs
  | .ref k => cellOf μ k
  | _ => none
def asS (μ : Store) : D → Option (List D)
  | .wl xs => some xs
  | .lst xs => some xs
  | .ref k => cellOf μ k
  | _ => none
/-- a list or a tuple -/
def asQ (μ : Store) : D → Option (List D)
  | .tup xs => some xs
  | .wl xs => some xs
  | .lst xs => some xs
  | .ref k => cellOf μ k
  | _ => none
section
variable {K : PySem.W.Frag} {A : List Addr} {M : Addr → Prop} {μ : Store} {H : Hp} {v w : V} {d : D} {xs ds : List D} {k : Nat}
theorem cell_rep (ok : Ok K A M μ H) {a : Addr} (ha : A[k]? = some a) (e : cellOf μ k = some xs) : ∃ vs, H a = some (.lst vs) ∧ RepL K A M H vs xs ∧ pureL xs = true := by
  unfold cellOf at e
  split at e
  · rename_i ds h
    cases e
    obtain ⟨x, vs, h1, h2, h3, _⟩ := (ok.rep k a _ ha h).get
    exact ⟨vs, h1, h2, h3⟩
  · cases e
theorem asL_rep (ok : Ok K A M μ H) (r : RepD K A M H v d) (e : asL μ d = some xs) : ∃ p vs, v = .ref p ∧ H p = some (.lst vs) ∧ RepL K A M H vs xs := by
  cases d <;> try cases e
  · obtain ⟨p, vs, rfl, h, r⟩ := r
    exact ⟨p, vs, rfl, h.1, r⟩
  · obtain ⟨a, rfl, ha⟩ := r
    obtain ⟨vs, h1, h2, _⟩ := cell_rep ok ha e
    exact ⟨a, vs, rfl, h1, h2⟩
theorem asS_rep (ok : Ok K A M μ H) (r : RepD K A M H v d) (e : asS μ d = some xs) : ∃ p vs, v = .ref p ∧ SqL K H p vs ∧ RepL K A M H vs xs := by
  cases d <;> try cases e
  · obtain ⟨p, vs, rfl, h, r⟩ := r
    exact ⟨p, vs, rfl, h.sq, r⟩
  · obtain ⟨p, vs, rfl, h, r⟩ := r
    exact ⟨p, vs, rfl, h.sq, r⟩
  · obtain ⟨a, rfl, ha⟩ := r
    obtain ⟨vs, h1, h2, _⟩ := cell_rep ok ha e
    exact ⟨a, vs, rfl, .inl (.inl h1), h2⟩
theorem asQ_rep (ok : Ok K A M μ H) (r : RepD K A M H v d) (e : asQ μ d = some xs) : ∃ p vs, v = .ref p ∧ (SqL K H p vs ∨ SqT K H p vs) ∧ RepL K A M H vs xs := by
  cases d <;> try cases e
  · obtain ⟨p, vs, rfl, h, r⟩ := r
    exact ⟨p, vs, rfl, .inr h.sq, r⟩
  · obtain ⟨p, vs, rfl, h, r⟩ := r
    exact ⟨p, vs, rfl, .inl h.sq, r⟩
  · obtain ⟨p, vs, rfl, h, r⟩ := r
    exact ⟨p, vs, rfl, .inl h.sq, r⟩
  · obtain ⟨a, rfl, ha⟩ := r
    obtain ⟨vs, h1, h2, _⟩ := cell_rep ok ha e
    exact ⟨a, vs, rfl, .inl (.inl (.inl h1)), h2⟩
def dAdd (μ : Store) : D → D → Option D
  | .int a, .int b => some (.int (a + b))
  | .str a, .str b => if a.length + b.length ≤ 100000 then some (.str (a ++ b)) else none
  | .bl a, .bl b => some (.int (b2i a + b2i b))
  | .tup a, .tup b => if a.length + b.length ≤ 100000 then some (.tup (a ++ b)) else none
  | x, y => match asL μ x, asL μ y with
    | some a, some b => if a.length + b.length ≤ 100000 then some (.lst (a ++ b)) else none
    | _, _ => none
theorem op_dCat {x y : V} {dx dy : D} {a b : List D} (ok : Ok K A M μ H) (rx : RepD K A M H x dx) (ry : RepD K A M H y dy) (hx : asL μ dx = some a) (hy : asL μ dy = some b) (hl : a.length + b.length ≤ 100000) {Q : VK} (f : ∀ p vs, H p = none → RepL K A M H vs (a ++ b) → Q (.ref p) (upd H p (.lst vs))) : rAddU K x y H Q := by
  obtain ⟨p, vs, rfl, h1, r1⟩ := asL_rep ok rx hx
  obtain ⟨q, ws, rfl, h2, r2⟩ := asL_rep ok ry hy
  refine .inr (.inr (.inl ⟨p, q, vs, ws, rfl, rfl, h1, h2, Evl.sz_of (by rw [r1.len, r2.len]; exact hl), fun l hl => f l _ hl (r1.app r2)⟩))
theorem od_add : OpD K (rAddU K) dAdd := fun A M μ H x y dx dy d ok rx ry e Q f => by
  unfold dAdd at e
  split at e
  · cases e
    cases rx; cases ry
    exact .inl ⟨_, _, rfl, rfl, f _ H (Evl.Ex.refl _) rfl⟩
  · split at e
    · rename_i h
      cases e
      cases rx; cases ry
      exact .inr (.inl ⟨_, _, rfl, rfl, by rw [SX.S_len, SX.S_len]; exact Evl.sz_of h, f _ H (Evl.Ex.refl _) (by show V.str _ = _; rw [SX.S_cat])⟩)
    · cases e
  · cases e
    cases rx; cases ry
    exact .inr (.inr (.inr (.inr ⟨_, _, rfl, rfl, f _ H (Evl.Ex.refl _) rfl⟩)))
  · split at e
    · rename_i a b h
      cases e
      obtain ⟨p, vs, rfl, h1, r1⟩ := rx
      obtain ⟨q, ws, rfl, h2, r2⟩ := ry
      refine .inr (.inr (.inr (.inl ⟨p, q, vs, ws, rfl, rfl, h1.sq, h2.sq, Evl.sz_of (by rw [r1.len, r2.len]; exact h), fun e0 => ?_, fun _ e0 => ?_, fun _ _ l hl => ?_⟩)))
      · subst e0
        have : a = [] := List.eq_nil_of_length_eq_zero r1.len.symm
        subst this
        exact f _ H (Evl.Ex.refl _) ⟨q, ws, rfl, h2, r2⟩
      · subst e0
        have : b = [] := List.eq_nil_of_length_eq_zero r2.len.symm
        subst this
        exact f _ H (Evl.Ex.refl _) ⟨p, vs, rfl, h1, by rw [List.append_nil]; exact r1⟩
      · exact f _ _ (Evl.Ex.new hl) ⟨l, _, rfl, .of upd_same (ok.fresh hl), RepL.go (Fut.newO hl).go (r1.app r2)⟩
    · cases e
  · split at e
    · split at e
      · rename_i hx hy h
        cases e
        exact op_dCat ok rx ry hx hy h fun p vs hp r => f _ _ (Evl.Ex.new hp) ⟨p, vs, rfl, ⟨upd_same, ok.fresh hp⟩, RepL.go (Fut.newO hp).go r⟩
      · cases e
    · cases e
def dSub (_ : Store) : D → D → Option D
  | .int a, .int b => some (.int (a - b))
  | _, _ => none
theorem od_sub : OpD K (rI0 fun i j => V.int (i - j)) dSub := fun A M μ H x y dx dy d ok rx ry e Q f => by
  cases dx <;> cases dy <;> try cases e
  cases rx; cases ry
  exact ⟨_, _, rfl, rfl, f _ H (Evl.Ex.refl _) rfl⟩
def dMod (_ : Store) : D → D → Option D
  | .int a, .int b => if 0 < b then some (.int (a % b)) else none
  | _, _ => none
theorem od_mod : OpD K (rI (fun _ j => 0 < j) fun i j => V.int (i % j)) dMod := fun A M μ H x y dx dy d ok rx ry e Q f => by
  unfold dMod at e
  split at e <;> try (cases e; done)
  split at e <;> try (cases e; done)
  · rename_i h
    cases e
    cases rx; cases ry
    exact ⟨_, _, rfl, rfl, h, f _ H (Evl.Ex.refl _) rfl⟩
def dDiv (_ : Store) : D → D → Option D
  | .int a, .int b => if 0 < b ∧ (b < 1073741824 ∨ b.natAbs.log2 < 9000) then some (.int (a / b)) else none
  | _, _ => none
theorem od_div : OpD K rDivU dDiv := fun A M μ H x y dx dy d ok rx ry e Q f => by
  unfold dDiv at e
  split at e <;> try (cases e; done)
  split at e <;> try (cases e; done)
  · rename_i h
    cases e
    cases rx; cases ry
    rcases h.2 with h2 | h2
    · exact .inl ⟨_, _, rfl, rfl, ⟨h.1, h2⟩, f _ H (Evl.Ex.refl _) rfl⟩
    · exact .inr ⟨_, _, rfl, rfl, ⟨h.1, h2⟩, f _ H (Evl.Ex.refl _) rfl⟩
def dPow (_ : Store) : D → D → Option D
  | .int a, .int b => if 0 ≤ b ∧ b ≤ 1000000 ∧ a.natAbs < 2 ^ 64 then some (.int (a ^ b.toNat)) else none
  | _, _ => none
theorem od_pow : OpD K (rI CPow fun i j => V.int (i ^ j.toNat)) dPow := fun A M μ H x y dx dy d ok rx ry e Q f => by
  unfold dPow at e
  split at e <;> try (cases e; done)
  split at e <;> try (cases e; done)
  · rename_i h
    cases e
    cases rx; cases ry
    exact ⟨_, _, rfl, rfl, h, f _ H (Evl.Ex.refl _) rfl⟩
def dMul (μ : Store) : D → D → Option D
  | .int a, .int b => if (-(2 ^ 64) < a ∧ a < 2 ^ 64) ∨ (-(2 ^ 64) < b ∧ b < 2 ^ 64) then some (.int (a * b)) else none
  | .str [c], .int b => if -100000 ≤ b ∧ b ≤ 100000 then some (.str (List.replicate b.toNat c)) else none
  | x, .int b => match asL μ x with
    | some xs => if -100000 ≤ b ∧ b ≤ 100000 ∧ xs.length * b.toNat ≤ 100000 then some (.lst (List.replicate b.toNat xs).flatten) else none
    | none => none
  | _, _ => none
theorem od_mul : OpD K rMulU dMul := fun A M μ H x y dx dy d ok rx ry e Q f => by
  unfold dMul at e
  split at e
  · split at e
    · rename_i h
      cases e
      cases rx; cases ry
      exact .inl ⟨_, _, rfl, rfl, h, f _ H (Evl.Ex.refl _) rfl⟩
    · cases e
  · split at e
    · rename_i c b h
      cases e
      cases rx; cases ry
      exact .inr (.inr ⟨c, b, rfl, rfl, h.1, h.2, f _ H (Evl.Ex.refl _) ((sv_of _).trans (by unfold cs; rw [PyProof.Rows.mul_one_list]))⟩)
    · cases e
  · split at e
    · split at e
      · rename_i xs hx h
        cases e
        cases ry
        obtain ⟨p, vs, rfl, h1, r1⟩ := asL_rep ok rx hx
        exact .inr (.inl ⟨p, _, vs, rfl, rfl, h1, by omega, by omega, Evl.sz_of (by rw [r1.len]; exact h.2.2), fun l hl => f _ _ (Evl.Ex.new hl) ⟨l, _, rfl, ⟨upd_same, ok.fresh hl⟩, RepL.go (Fut.newO hl).go (r1.rep _)⟩⟩)
      · cases e
    · cases e
  · cases e
def dLe (_ : Store) : D → D → Option D
  | .int a, .int b => some (.bl (decide (a ≤ b)))
  | _, _ => none
theorem od_le : OpD K rLeU dLe := fun A M μ H x y dx dy d ok rx ry e Q f => by
  cases dx <;> cases dy <;> try cases e
  cases rx; cases ry
  exact ⟨_, _, rfl, rfl, f _ H (Evl.Ex.refl _) rfl⟩
def dGt (_ : Store) : D → D → Option D
  | .int a, .int b => some (.bl (decide (b < a)))
  | _, _ => none
theorem od_gt : OpD K rGtU dGt := fun A M μ H x y dx dy d ok rx ry e Q f => by
  cases dx <;> cases dy <;> try cases e
  cases rx; cases ry
  exact ⟨_, _, rfl, rfl, f _ H (Evl.Ex.refl _) rfl⟩
def dGe (_ : Store) : D → D → Option D
  | .int a, .int b => some (.bl (decide (b ≤ a)))
  | _, _ => none
theorem od_ge : OpD K rGeU dGe := fun A M μ H x y dx dy d ok rx ry e Q f => by
  cases dx <;> cases dy <;> try cases e
  cases rx; cases ry
  exact ⟨_, _, rfl, rfl, f _ H (Evl.Ex.refl _) rfl⟩
mutual
def toData : D → Option PyData
  | .non => some .none
  | .bl b => some (.bool b)
  | .int i => some (.int i)
  | .str l => some (.str (SX.S l))
  | .ty _ => none
  | .tup ds => (toDataL ds).map .tuple
  | .lst ds => (toDataL ds).map .list
  | .wl ds => (toDataL ds).map .list
  | .ref _ => none
  | .cls _ => none
  | .obj _ _ _ => none
  | .dic _ _ _ => none
  | .err _ _ _ => none
  | .fn _ _ _ _ _ _ => none
  | .any => none
def toDataL : List D → Option (List PyData)
  | [] => some []
  | d :: ds => match toData d, toDataL ds with
    | some x, some xs => some (x :: xs)
    | _, _ => none
end
mutual
theorem toData_dp : ∀ {d : D} {v : V} {x : PyData}, RepD K A M H v d → toData d = some x → Dp K H v x
  | .non, _, _, r, e => by cases e; cases r; exact .non
  | .bl b, _, _, r, e => by cases e; cases r; exact .bl b
  | .int i, _, _, r, e => by cases e; cases r; exact .int i
  | .str l, _, _, r, e => by cases e; cases r; exact .str _
  | .ty _, _, _, _, e => nomatch e
  | .ref _, _, _, _, e => nomatch e
  | .cls _, _, _, _, e => nomatch e
  | .obj _ _ _, _, _, _, e => nomatch e
  | .dic _ _ _, _, _, _, e => nomatch e
  | .err _ _ _, _, _, _, e => nomatch e
  | .fn _ _ _ _ _ _, _, _, _, e => nomatch e
  | .any, _, _, _, e => nomatch e
  | .tup ds, _, _, ⟨p, vs, e1, h, r⟩, e => by
    obtain ⟨xs, e2, e3⟩ := Option.map_eq_some_iff.mp (show (toDataL ds).map PyData.tuple = _ from e)
    rw [e1, ← e3]
    exact .tup h.sq (toDataL_dp r e2)
  | .lst ds, _, _, ⟨p, vs, e1, h, r⟩, e => by
    obtain ⟨xs, e2, e3⟩ := Option.map_eq_some_iff.mp (show (toDataL ds).map PyData.list = _ from e)
    rw [e1, ← e3]
    exact .lst h.sq (toDataL_dp r e2)
  | .wl ds, _, _, ⟨p, vs, e1, h, r⟩, e => by
    obtain ⟨xs, e2, e3⟩ := Option.map_eq_some_iff.mp (show (toDataL ds).map PyData.list = _ from e)
    rw [e1, ← e3]
    exact .lst h.sq (toDataL_dp r e2)
theorem toDataL_dp : ∀ {ds : List D} {vs : List V} {xs : List PyData}, RepL K A M H vs ds → toDataL ds = some xs → DpAll K H vs xs
  | [], _, _, r, e => by cases e; rw [show _ = [] from r]; exact .nil
  | d :: ds, _, _, ⟨v, rs, e1, h, r⟩, e => by
    unfold toDataL at e
    split at e
    · rename_i x xs h1 h2
      cases e
      rw [e1]
      exact .cons (toData_dp h h1) (toDataL_dp r h2)
    · cases e
end
def toDataS (μ : Store) : D → Option PyData
  | .ref k => match cellOf μ k with
    | some ds => (toDataL ds).map .list
    | none => none
  | d => toData d
theorem toDataS_dp {x : PyData} (ok : Ok K A M μ H) (r : RepD K A M H v d) (e : toDataS μ d = some x) : Dp K H v x := by
  cases d with
  | ref k =>
    unfold toDataS at e
    dsimp only at e
    cases hc : cellOf μ k with
    | some ds =>
      rw [hc] at e
      obtain ⟨xs, e2, e3⟩ := Option.map_eq_some_iff.mp e
      obtain ⟨a, rfl, ha⟩ := r
      obtain ⟨vs, h1, h2, _⟩ := cell_rep ok ha hc
      rw [← e3]
      exact .lst (.inl (.inl h1)) (toDataL_dp h2 e2)
    | none => rw [hc] at e; cases e
  | _ => exact toData_dp r e
def bEq (μ : Store) : D → D → Option Bool
  | .int a, .int b => some (decide (a = b))
  | .str a, .str b => some (decide (a = b))
  | .bl a, .bl b => some (a == b)
  | x, y => match toDataS μ x, toDataS μ y with
    | some a, some b => if SeqAt.shaped a = true ∧ SeqAt.shaped b = true then some (PyData.eqv a b) else none
    | _, _ => none
def dEq (μ : Store) (x y : D) : Option D := (bEq μ x y).map .bl
def dNe (μ : Store) (x y : D) : Option D := (bEq μ x y).map fun b => .bl (!b)
theorem bEq_ok {x y : V} {dx dy : D} {b : Bool} (ok : Ok K A M μ H) (rx : RepD K A M H x dx) (ry : RepD K A M H y dy) (e : bEq μ dx dy = some b) :
    (scal x y = true ∧ decide (x = y) = b) ∨ (∃ a c, Dp K H x a ∧ Dp K H y c ∧ SeqAt.shaped a = true ∧ SeqAt.shaped c = true ∧ PyData.eqv a c = b) := by
  unfold bEq at e
  split at e
  · cases e; cases rx; cases ry
    exact .inl ⟨rfl, dec_int _ _⟩
  · cases e; cases rx; cases ry
    exact .inl ⟨rfl, dec_sv _ _⟩
  · cases e; cases rx; cases ry
    exact .inl ⟨rfl, dec_bl _ _⟩
  · split at e
    · split at e
      · rename_i h1 h2 h3
        cases e
        exact .inr ⟨_, _, toDataS_dp ok rx h1, toDataS_dp ok ry h2, h3.1, h3.2, rfl⟩
      · cases e
    · cases e
theorem od_eq : OpD K (rEqU K) dEq := fun A M μ H x y dx dy d ok rx ry e Q f => by
  obtain ⟨b, e1, e2⟩ := Option.map_eq_some_iff.mp e
  subst e2
  rcases bEq_ok ok rx ry e1 with ⟨h1, h2⟩ | ⟨a, c, h1, h2, h3, h4, h5⟩
  · exact .inl ⟨h1, by rw [h2]; exact f _ H (Evl.Ex.refl _) rfl⟩
  · exact .inr ⟨a, c, h1, h2, h3, h4, by rw [h5]; exact f _ H (Evl.Ex.refl _) rfl⟩
theorem od_ne : OpD K (rNeU K) dNe := fun A M μ H x y dx dy d ok rx ry e Q f => by
  obtain ⟨b, e1, e2⟩ := Option.map_eq_some_iff.mp e
  subst e2
  rcases bEq_ok ok rx ry e1 with ⟨h1, h2⟩ | ⟨a, c, h1, h2, h3, h4, h5⟩
  · exact .inl ⟨h1, by rw [h2]; exact f _ H (Evl.Ex.refl _) rfl⟩
  · exact .inr ⟨a, c, h1, h2, h3, h4, by rw [h5]; exact f _ H (Evl.Ex.refl _) rfl⟩
/-- in -/
def flatD : D → Bool
  | .non => true
  | .bl _ => true
  | .int _ => true
  | .str _ => true
  | _ => false
def toV : D → V
  | .bl b => .bl b
  | .int i => .int i
  | .str l => sv l
  | _ => .non
theorem flat_rep (h : flatD d = true) (r : RepD K A M H v d) : v = toV d ∧ flatV (toV d) = true := by
  cases d <;> cases h <;> exact ⟨r, rfl⟩
theorem flat_repL : ∀ {ds : List D} {vs : List V}, ds.all flatD = true → RepL K A M H vs ds → vs = ds.map toV ∧ (ds.map toV).all flatV = true
  | [], _, _, r => ⟨r, rfl⟩
  | d :: ds, _, h, ⟨v, rs, e, h1, r⟩ => by
    rw [List.all_cons, Bool.and_eq_true] at h
    obtain ⟨h2, h3⟩ := flat_rep h.1 h1
    obtain ⟨h4, h5⟩ := flat_repL h.2 r
    rw [e, h2, h4, List.map_cons, List.all_cons, h3, h5]
    exact ⟨rfl, rfl⟩
def bIn (μ : Store) : D → D → Option Bool
  | .str [c], .str l => some (decide (c ∈ l))
  | x, y => match asQ μ y with
    | some ys => if flatD x = true ∧ ys.all flatD = true then some (inV (toV x) (ys.map toV)) else none
    | none => none
def dIn (μ : Store) (x y : D) : Option D := (bIn μ x y).map .bl
def dNi (μ : Store) (x y : D) : Option D := (bIn μ x y).map fun b => .bl (!b)
theorem od_in : OpD K (rInU K) dIn := fun A M μ H x y dx dy d ok rx ry e Q f => by
  obtain ⟨b, e1, e2⟩ := Option.map_eq_some_iff.mp e
  subst e2
  unfold bIn at e1
  split at e1
  · cases e1; cases rx; cases ry
    exact .inl ⟨_, _, rfl, rfl, f _ H (Evl.Ex.refl _) rfl⟩
  · split at e1
    · split at e1
      · rename_i ys hy h
        cases e1
        obtain ⟨p, vs, rfl, hs, r⟩ := asQ_rep ok ry hy
        obtain ⟨h1, h2⟩ := flat_rep h.1 rx
        obtain ⟨h3, h4⟩ := flat_repL h.2 r
        subst h1; subst h3
        exact .inr (.inl ⟨p, _, rfl, hs, h2, h4, f _ H (Evl.Ex.refl _) rfl⟩)
      · cases e1
    · cases e1
theorem od_ni : OpD K (rNotInU K) dNi := fun A M μ H x y dx dy d ok rx ry e Q f => by
  obtain ⟨b, e1, e2⟩ := Option.map_eq_some_iff.mp e
  subst e2
  unfold bIn at e1
  split at e1
  · cases e1; cases rx; cases ry
    exact .inl ⟨_, _, rfl, rfl, f _ H (Evl.Ex.refl _) rfl⟩
  · split at e1
    · split at e1
      · rename_i ys hy h
        cases e1
        obtain ⟨p, vs, rfl, hs, r⟩ := asQ_rep ok ry hy
        obtain ⟨h1, h2⟩ := flat_rep h.1 rx
        obtain ⟨h3, h4⟩ := flat_repL h.2 r
        subst h1; subst h3
        exact .inr (.inl ⟨p, _, rfl, hs, h2, h4, f _ H (Evl.Ex.refl _) rfl⟩)
      · cases e1
    · cases e1
/-- is -/
def isNon : D → Bool
  | .non => true
  | _ => false
theorem isNon_rep (r : RepD K A M H v d) : decide (v = .non) = isNon d := by
  cases d with
  | non => cases r; rfl
  | bl b => cases r; rfl
  | int i => cases r; rfl
  | str l => cases r; rfl
  | ty n => cases r; rfl
  | tup ds => obtain ⟨p, vs, rfl, _⟩ := r; rfl
  | lst ds => obtain ⟨p, vs, rfl, _⟩ := r; rfl
  | wl ds => obtain ⟨p, vs, rfl, _⟩ := r; rfl
  | ref k => obtain ⟨p, rfl, _⟩ := r; rfl
  | cls c => cases r; rfl
  | obj c ns ds => obtain ⟨p, x, vs, rfl, _⟩ := r; rfl
  | dic t ks ds => obtain ⟨p, vs, rfl, _⟩ := r; rfl
  | err c ns ds => obtain ⟨p, od, vs, rfl, _⟩ := r; rfl
  | fn f d q σ hs ds => obtain ⟨rfl, _⟩ := r; rfl
  | any => obtain ⟨p, rfl⟩ := r; rfl
def bIs : D → D → Option Bool
  | x, .non => some (isNon x)
  | .bl a, .bl b => some (decide (a = b))
  | _, _ => none
def dIs (_ : Store) (x y : D) : Option D := (bIs x y).map .bl
theorem od_is : OpD K rIsU dIs := fun A M μ H x y dx dy d ok rx ry e Q f => by
  obtain ⟨b, e1, e2⟩ := Option.map_eq_some_iff.mp e
  subst e2
  unfold bIs at e1
  split at e1
  · cases e1; cases ry
    exact .inl ⟨rfl, by rw [isNon_rep rx]; exact f _ H (Evl.Ex.refl _) rfl⟩
  · cases e1; cases rx; cases ry
    exact .inr ⟨_, _, rfl, rfl, f _ H (Evl.Ex.refl _) rfl⟩
  · cases e1
def dIx (μ : Store) : D → D → Option D
  | .str l, .int i => if l.length ≤ 100000 then (atI l i).map fun c => .str [c] else none
  | x, .int i => match asQ μ x with
    | some xs => atI xs i
    | none => none
  | _, _ => none
theorem atI_rep {vs : List V} {i : Int} (r : RepL K A M H vs xs) (e : atI xs i = some d) : ∃ v, atI vs i = some v ∧ RepD K A M H v d := by
  unfold atI at *
  rw [r.len]
  obtain ⟨j, h1, h2⟩ := Option.bind_eq_some_iff.mp e
  obtain ⟨v, h3, h4⟩ := r.get h2
  exact ⟨v, by rw [h1]; exact h3, h4⟩
theorem od_ix : OpD K (rIx K) dIx := fun A M μ H x y dx dy d ok rx ry e Q f => by
  unfold dIx at e
  split at e
  · split at e
    · rename_i h
      obtain ⟨c, h1, h2⟩ := Option.map_eq_some_iff.mp e
      cases rx; cases ry; cases h2
      exact .inr (.inr ⟨_, _, c, rfl, rfl, slen h, h1, f _ H (Evl.Ex.refl _) rfl⟩)
    · cases e
  · split at e
    · rename_i xs hx
      cases ry
      obtain ⟨p, vs, rfl, hs, r⟩ := asQ_rep ok rx hx
      obtain ⟨v, h1, h2⟩ := atI_rep r e
      rcases hs with hs | hs
      · exact .inl ⟨p, vs, _, v, rfl, rfl, hs, h1, f _ H (Evl.Ex.refl _) h2⟩
      · exact .inr (.inl ⟨p, vs, _, v, rfl, rfl, hs, h1, f _ H (Evl.Ex.refl _) h2⟩)
    · cases e
  · cases e
def cutD (xs : List D) (lo hi : Option Int) : List D := (xs.drop (HT.sIx xs.length 0 lo)).take (HT.sIx xs.length xs.length hi - HT.sIx xs.length 0 lo)
theorem cut_rep {vs : List V} (lo hi : Option Int) (r : RepL K A M H vs xs) : RepL K A M H (cutV vs lo hi) (cutD xs lo hi) := by
  unfold cutV cutD
  rw [r.len]
  exact (r.drop _).take _
def dSl (μ : Store) (x : D) (lo hi : Option Int) : Option D := match x with
  | .str l => if l.length ≤ 100000 then some (.str (sl l lo hi)) else none
  | x => match asS μ x with
    | some xs => some (.lst (cutD xs lo hi))
    | none => none
theorem sd_any : SlD K (rSlU K) dSl := fun A M μ H x dx lo hi d ok rx e Q f => by
  unfold dSl at e
  split at e
  · split at e
    · rename_i h
      cases e; cases rx
      exact .inl ⟨_, rfl, slen h, f _ H (Evl.Ex.refl _) (sv_of _)⟩
    · cases e
  · split at e
    · rename_i xs hx
      cases e
      obtain ⟨p, vs, rfl, hs, r⟩ := asS_rep ok rx hx
      exact .inr ⟨p, vs, rfl, hs, fun l hl => f _ _ (Evl.Ex.new hl) ⟨l, _, rfl, ⟨upd_same, ok.fresh hl⟩, RepL.go (Fut.newO hl).go (cut_rep lo hi r)⟩⟩
    · cases e
end
end My
namespace My
open PySem PySem.Spec PyProof.Rows L2
section
variable {K : PySem.W.Frag} {A : List Addr} {M : Addr → Prop} {μ : Store} {H : Hp} {v w : V} {d : D} {xs ds : List D} {k : Nat} {te ta tb : TE} {m ma mb : Mo D} {tas : TA} {mas : Mo (List D)}
def dLen (μ : Store) : List D → Option D
  | [.str l] => if l.length ≤ 100000 then some (.int l.length) else none
  | [x] => match asQ μ x with
    | some xs => some (.int xs.length)
    | none => none
  | _ => none
theorem cd_len : CbD K (rLenU K) dLen := fun A M μ H vs ds d ok r e Q f => by
  unfold dLen at e
  split at e
  · split at e
    · rename_i l h
      cases e
      obtain ⟨v, r', rfl, h1, rfl⟩ := r
      cases h1
      exact ⟨_, _, rfl, ⟨slen h, (SX.S_len l).symm⟩, f _ H (Evl.Ex.refl _) rfl⟩
    · cases e
  · split at e
    · rename_i xs hx
      cases e
      obtain ⟨v, r', rfl, h1, rfl⟩ := r
      obtain ⟨p, vs, rfl, hs, r⟩ := asQ_rep ok h1 hx
      refine ⟨_, xs.length, rfl, ?_, f _ H (Evl.Ex.refl _) rfl⟩
      rcases hs with hs | hs
      · exact .inl ⟨vs, hs, r.len.symm⟩
      · exact .inr ⟨vs, hs, r.len.symm⟩
    · cases e
  · cases e
def dInt (_ : Store) : List D → Option D
  | [.int i] => some (.int i)
  | [.bl b] => some (.int (if b then 1 else 0))
  | [.str l] => if l.length ≤ 640 then (PySem.intText? (SX.S l)).map .int else none
  | _ => none
theorem cd_int : CbD K rIntU dInt := fun A M μ H vs ds d ok r e Q f => by
  unfold dInt at e
  split at e
  · cases e
    obtain ⟨v, r', rfl, h1, rfl⟩ := r
    cases h1
    exact .inl (.inl ⟨_, rfl, f _ H (Evl.Ex.refl _) rfl⟩)
  · cases e
    obtain ⟨v, r', rfl, h1, rfl⟩ := r
    cases h1
    exact .inl (.inr ⟨_, rfl, f _ H (Evl.Ex.refl _) rfl⟩)
  · split at e
    · rename_i l h
      obtain ⟨i, e1, rfl⟩ := Option.map_eq_some_iff.mp e
      obtain ⟨v, r', rfl, h1, rfl⟩ := r
      cases h1
      exact .inr ⟨_, i, rfl, e1, by rw [SX.S_len]; exact h, f _ H (Evl.Ex.refl _) rfl⟩
    · cases e
  · cases e
theorem blsOf_rep : ∀ {ds : List D} {vs : List V} {bs : List Bool}, RepL K A M H vs ds → blsOf ds = some bs → vs = bs.map V.bl
  | [], _, _, r, e => by cases e; exact r
  | d :: ds, _, _, ⟨v, r', e1, h1, r⟩, e => by
    cases d with
    | bl b =>
      obtain ⟨cs, e2, rfl⟩ := Option.map_eq_some_iff.mp (show (blsOf ds).map (b :: ·) = _ from e)
      rw [e1, show v = _ from h1, blsOf_rep r e2]
      rfl
    | _ => cases e
theorem intsOf_rep : ∀ {ds : List D} {vs : List V} {bs : List Int}, RepL K A M H vs ds → intsOf ds = some bs → vs = bs.map V.int
  | [], _, _, r, e => by cases e; exact r
  | d :: ds, _, _, ⟨v, r', e1, h1, r⟩, e => by
    cases d with
    | int b =>
      obtain ⟨cs, e2, rfl⟩ := Option.map_eq_some_iff.mp (show (intsOf ds).map (b :: ·) = _ from e)
      rw [e1, show v = _ from h1, intsOf_rep r e2]
      rfl
    | _ => cases e
theorem strsOf_rep : ∀ {ds : List D} {vs : List V} {bs : List Codes}, RepL K A M H vs ds → strsOf ds = some bs → vs = bs.map sv
  | [], _, _, r, e => by cases e; exact r
  | d :: ds, _, _, ⟨v, r', e1, h1, r⟩, e => by
    cases d with
    | str b =>
      obtain ⟨cs, e2, rfl⟩ := Option.map_eq_some_iff.mp (show (strsOf ds).map (b :: ·) = _ from e)
      rw [e1, show v = _ from h1, strsOf_rep r e2]
      rfl
    | _ => cases e
def dAll (μ : Store) : List D → Option D
  | [x] => match asS μ x with
    | some xs => (blsOf xs).map fun bs => .bl (bs.all id)
    | none => none
  | _ => none
theorem cd_all : CbD K (rAll K) dAll := fun A M μ H vs ds d ok r e Q f => by
  unfold dAll at e
  split at e
  · split at e
    · rename_i hx
      obtain ⟨bs, e1, rfl⟩ := Option.map_eq_some_iff.mp e
      obtain ⟨v, r', rfl, h1, rfl⟩ := r
      obtain ⟨p, vs, rfl, hs, r⟩ := asS_rep ok h1 hx
      have := blsOf_rep r e1
      subst this
      exact ⟨p, bs, rfl, hs, f _ H (Evl.Ex.refl _) rfl⟩
    · cases e
  · cases e
def tyN : D → Option String
  | .non => some "NoneType"
  | .bl _ => some "bool"
  | .int _ => some "int"
  | .str _ => some "str"
  | .tup _ => some "tuple"
  | .lst _ => some "list"
  | .dic _ _ _ => some "dict"
  | _ => none
theorem tyN_rep {n : String} (ok : Ok K A M μ H) (r : RepD K A M H v d) (e : tyN d = some n) : TyX K H v (.type n) := by
  cases d <;> try cases e
  · cases r; exact .base .non
  · cases r; exact .base (.bl _)
  · cases r; exact .base (.int _)
  · cases r; exact .base (.str _)
  · obtain ⟨p, vs, rfl, h, _⟩ := r
    rcases h with ⟨h | ⟨o, h⟩, _⟩ | h
    · exact .base (.tup h)
    · exact .fTuple h
    · rcases h (fun _ => none) with (z | ⟨_, z⟩) | ⟨o, its, n, h1, h2, _⟩
      · cases z
      · cases z
      · exact .kTuple h1 h2
  · obtain ⟨p, vs, rfl, h, _⟩ := r
    exact .base (.lst h.1)
  · rename_i t ks ds
    obtain ⟨p, vs, rfl, h, _⟩ := r
    cases t with
    | false =>
      rcases h.1.1 with z | ⟨o, z⟩
      · exact .base (.dK z)
      · exact .fDict z
    | true => exact .base (.dT (h.1.2 rfl))
def isiN (a b : String) : Bool := a == b || (a == "bool" && b == "int")
theorem isiN_all : (knownT.all fun a => knownC.all fun b => kitB a b == some (isiN a b)) = true := by decide +kernel
theorem isiN_ok (a : String) (ha : a ∈ knownT) (b : String) (hb : b ∈ knownC) : PySem.W.kitOne K (.type a) (.type b) = some (isiN a b) :=
  kit_ty (beq_iff_eq.mp (List.all_eq_true.mp (List.all_eq_true.mp isiN_all a ha) b hb))
def dIsi (_ : Store) : List D → Option D
  | [x, .ty c] => match tyN x with
    | some t => if knownC.contains c = true then some (.bl (isiN t c)) else none
    | none => none
  | _ => none
theorem tyN_known {n : String} (e : tyN d = some n) : n ∈ knownT := by
  cases d <;> try (cases e; done)
  all_goals (cases e; simp [knownT])
theorem cd_isi : CbD K (rIsi K) dIsi := fun A M μ H vs ds d ok r e Q f => by
  unfold dIsi at e
  split at e
  · split at e
    · rename_i t ht
      split at e
      · rename_i hc
        cases e
        obtain ⟨v, r', rfl, h1, w, r2, rfl, h2, rfl⟩ := r
        cases h2
        exact ⟨v, _, _, _, _, rfl, .ty _, tyN_rep ok h1 ht, isiN_ok t (tyN_known ht) _ (by simpa using hc), f _ H (Evl.Ex.refl _) rfl⟩
      · cases e
    · cases e
  · cases e
def lList (μ : Store) : List D → Option (List D)
  | [x] => asQ μ x
  | _ => none
theorem cc_list : CcD K (rListU K) lList := fun A M μ H vs ds es ok r e Q f => by
  unfold lList at e
  split at e
  · obtain ⟨v, r', rfl, h1, rfl⟩ := r
    obtain ⟨p, vs, rfl, hs, r⟩ := asQ_rep ok h1 e
    exact ⟨p, vs, rfl, hs, fun l hl => f l vs hl r⟩
  · cases e
def dTuple (μ : Store) : List D → Option D
  | [.tup xs] => some (.tup xs)
  | [x] => match asS μ x with
    | some xs => some (.tup xs)
    | none => none
  | _ => none
theorem cd_tuple : CbD K (rTupU K) dTuple := fun A M μ H vs ds d ok r e Q f => by
  unfold dTuple at e
  split at e
  · cases e
    obtain ⟨v, r', rfl, h1, rfl⟩ := r
    obtain ⟨p, vs, rfl, h, r⟩ := h1
    exact ⟨p, vs, rfl, .inr ⟨h.sq, f _ H (Evl.Ex.refl _) ⟨p, vs, rfl, h, r⟩⟩⟩
  · split at e
    · rename_i hx
      cases e
      obtain ⟨v, r', rfl, h1, rfl⟩ := r
      obtain ⟨p, vs, rfl, hs, r⟩ := asS_rep ok h1 hx
      exact ⟨p, vs, rfl, .inl ⟨hs, fun l hl => f _ _ (Evl.Ex.new hl) ⟨l, vs, rfl, .of upd_same (ok.fresh hl), RepL.go (Fut.newO hl).go r⟩⟩⟩
    · cases e
  · cases e
def dLower (_ : Store) : D → List D → Option D
  | .str a, [] => if a.length ≤ 100000 ∧ a.all (· < 128) = true then some (.str (a.map PyProof.Rows.lo1)) else none
  | _, _ => none
theorem md_lower : MtD K rLowerU dLower := fun A M μ H x dx vs ds d ok rx r e Q f => by
  unfold dLower at e
  split at e
  · split at e
    · rename_i h
      cases e; cases rx; cases r
      exact ⟨_, rfl, rfl, by rw [SX.S_len]; omega, f _ H (Evl.Ex.refl _) (by show V.str _ = _; rw [SX.lower_S h.2])⟩
    · cases e
  · cases e
def dFind (_ : Store) : D → List D → Option D
  | .str a, [.str b] => some (.int (Txt.find (SX.S a) (SX.S b)))
  | .str a, [.str b, .int i] => some (.int (fnd3 a b i))
  | _, _ => none
theorem md_find : MtD K rFindU dFind := fun A M μ H x dx vs ds d ok rx r e Q f => by
  unfold dFind at e
  split at e
  · cases e; cases rx
    obtain ⟨v, r', rfl, h1, rfl⟩ := r
    cases h1
    exact .inl ⟨_, _, rfl, rfl, f _ H (Evl.Ex.refl _) rfl⟩
  · cases e; cases rx
    obtain ⟨v, r', rfl, h1, w, r2, rfl, h2, rfl⟩ := r
    cases h1; cases h2
    exact .inr ⟨_, _, _, rfl, rfl, f _ H (Evl.Ex.refl _) rfl⟩
  · cases e
def lSplit (_ : Store) : D → List D → Option (List D)
  | .str a, [.str b] => if a.length ≤ 100000 ∧ b ≠ [] ∧ b.all (· < 256) = true then some ((TL.spl b 0 [] a).map D.str) else none
  | _, _ => none
theorem mc_split : McD K rSplitU lSplit := fun A M μ H x dx vs ds es ok rx r e Q f => by
  unfold lSplit at e
  split at e
  · split at e
    · rename_i a b h
      cases e; cases rx
      obtain ⟨v, r', rfl, h1, rfl⟩ := r
      cases h1
      refine ⟨_, _, rfl, rfl, ?_, ?_, fun l hl => ?_⟩
      · rw [SX.S_len]
        cases b with
        | nil => exact absurd rfl h.2.1
        | cons => rfl
      · rw [SX.S_len]
        exact Nat.le_trans (Nat.add_le_add_right h.1 2) (by decide)
      · rw [SX.split_S h.2.1 h.2.2, map_sv]
        exact f l _ hl (repL_strs _)
    · cases e
  · cases e
def dJoin (μ : Store) : D → List D → Option D
  | .str a, [x] => match asQ μ x with
    | some xs => match strsOf xs with
      | some ls => if (ls.map (·.length)).sum + ls.length * a.length ≤ 1000000 then some (.str (TL.joinL a ls)) else none
      | none => none
    | none => none
  | _, _ => none
theorem md_join : MtD K (rJoinU K) dJoin := fun A M μ H x dx vs ds d ok rx r e Q f => by
  unfold dJoin at e
  split at e
  · split at e
    · rename_i hx
      split at e
      · rename_i ls hls
        split at e
        · rename_i h
          cases e; cases rx
          obtain ⟨v, r', rfl, h1, rfl⟩ := r
          obtain ⟨p, vs, rfl, hs, r⟩ := asQ_rep ok h1 hx
          have := strsOf_rep r hls
          subst this
          refine ⟨_, p, ls.map SX.S, rfl, rfl, ?_, ?_, ?_⟩
          · rw [map_sv]; exact hs
          · rw [SX.lens, List.length_map, SX.S_len]
            exact Nat.le_trans h (by decide)
          · rw [SX.join_S]
            exact f _ H (Evl.Ex.refl _) rfl
        · cases e
      · cases e
    · cases e
  · cases e
def mApp (o e : Mo D) : Mo D := fun env μ => (o env μ).bind fun x μ0 => match x with
  | .ref k => if (cellOf μ0 k).isSome = true then (e env μ0).bind fun y μ1 => match cellOf μ1 k with
    | some ds => if pureD y = true ∧ ds.length < 100000 then .ok .non (μ1.set k (.lst (ds ++ [y]))) else .no
    | none => .no else .no
  | _ => .no
theorem tyV_cell {a : Addr} {k : Nat} {ds : List D} (ok : Ok K A M μ H) (ha : A[k]? = some a) (hc : cellOf μ k = some ds) : tyV K "list" (.ref a) H := by
  obtain ⟨vs, h1, _⟩ := cell_rep ok ha hc
  exact .inl ⟨rfl, vs, .inl (.inl h1)⟩
theorem d_app (h : EvD K ta ma) (h2 : EvD K tb mb) : EvD K (tBM K "list" rAppend ta (tCons tb tNil)) (mApp ma mb) := fun A M μ H σ env d μ' ok en e Q f => by
  obtain ⟨x, μ0, e1, e2⟩ := Rs.bind_ok e
  split at e2
  · rename_i k
    split at e2
    rotate_left
    · cases e2
    rename_i hcs
    obtain ⟨ds0, hc0⟩ := Option.isSome_iff_exists.mp hcs
    obtain ⟨y, μ1, e3, e4⟩ := Rs.bind_ok e2
    split at e4
    · rename_i ds hc
      split at e4
      · rename_i hp
        cases e4
        refine h A M μ H σ env _ μ0 ok en e1 _ fun v H1 A1 f1 ok1 r1 => ?_
        obtain ⟨a, rfl, ha⟩ := r1
        refine ⟨tyV_cell ok1 ha hc0, h2 A1 M μ0 H1 σ env y μ1 ok1 (en.go f1.go) e3 _ fun w H2 A2 f2 ok2 r2 => ?_⟩
        have ha2 := (f2.go (M := M)).ix _ _ ha
        obtain ⟨vs, h1, h2, h3⟩ := cell_rep ok2 ha2 hc
        obtain ⟨ok3, f3⟩ := ok2.cellSet (x := 0) (c := .lst (ds ++ [y])) ha2 (h2.app (.one r2)) (by show pureL (ds ++ [y]) = true; rw [pureL_app, h3, pureL, pureL, hp.1]; rfl) rfl
        exact ⟨a, vs, w, rfl, rfl, h1, Evl.sz_lt (by rw [h2.len]; exact hp.2), f _ _ A2 (f1.trans (f2.trans f3)) ok3 rfl⟩
      · cases e4
    · cases e4
  · cases e2
theorem pureL_set : ∀ {ds : List D} (i : Nat) {d : D}, pureL ds = true → pureD d = true → pureL (ds.set i d) = true
  | [], _, _, h, _ => h
  | _ :: _, 0, _, h, q => (Bool.and_eq_true _ _).mpr ⟨q, ((Bool.and_eq_true _ _).mp h).2⟩
  | d :: ds, i + 1, _, h, q => (Bool.and_eq_true _ _).mpr ⟨((Bool.and_eq_true _ _).mp h).1, pureL_set i ((Bool.and_eq_true _ _).mp h).2 q⟩
def itemsOf (μ : Store) : D → Option (List D × Gd)
  | .lst xs => some (xs, none)
  | .wl xs => some (xs, none)
  | .tup xs => some (xs, none)
  | .str l => some (l.map fun c => .str [c], none)
  | .ref k => match cellOf μ k with
    | some xs => some (xs, some (k, xs))
    | none => none
  | _ => none
def mIter (m : Mo D) : Mo (List D × Gd) := fun env μ => (m env μ).bind fun d μ1 => Rs.of (itemsOf μ1 d) μ1
theorem it_seq {J : It} {A1 : List Addr} {H1 : Hp} {vs : List V} {p : Addr} (hJ : J = Itl K p) (hr : SqM K (AM A1 M) H1 p vs) (r : RepL K A1 M H1 vs xs) : ItOkD K J xs none A1 M H1 := by
  subst hJ
  have carry : ∀ {A' : List Addr} {M' : Addr → Prop} {H' : Hp}, (∀ a, M' a → M a ∨ H1 a = none) → Fut A1 H1 A' H' → Go A1 M H1 A' M' H' := fun {A' M' H'} hm fu => ⟨(fu.go (M := M)).ix, fun a z => by
    rcases z with z | z
    · exact (fu.go (M := M)).new a (.inl z)
    · exact (hm a z).imp .inr id, (fu.go (M := M)).pr⟩
  have sq : ∀ {A' : List Addr} {M' : Addr → Prop} {H' : Hp}, (∀ a, M' a → M a ∨ H1 a = none) → Fut A1 H1 A' H' → SqL K H' p vs := fun {A' M' H'} hm fu => (show SqM K (AM A' M') H' p vs from hr.imp (carry hm fu).rd id).sq
  refine ⟨fun i A' M' μ' H' hm fu ok _ hi => ?_, fun i A' M' μ' H' x H'' d hm fu ok _ hi hy => ?_, fun A' M' μ' H' hm fu ok _ => ?_⟩
  · exact ⟨vs, _, sq hm fu, List.getElem?_eq_getElem (by rw [r.len]; exact hi)⟩
  · obtain ⟨rfl, hx⟩ := hy
    refine ⟨Evl.Ex.refl _, ?_⟩
    obtain ⟨u, hu, ru⟩ := (RepL.go (carry hm fu) r).get hi
    rw [hx vs (sq hm fu)] at hu
    cases hu
    exact ru
  · exact ⟨vs, sq hm fu, by rw [r.len]; exact Nat.le_refl _⟩
theorem it_seqT {J : It} {A1 : List Addr} {H1 : Hp} {vs : List V} {p : Addr} (hJ : J = Itt K p) (hr : StM K (AM A1 M) H1 p vs) (r : RepL K A1 M H1 vs xs) : ItOkD K J xs none A1 M H1 := by
  subst hJ
  have carry : ∀ {A' : List Addr} {M' : Addr → Prop} {H' : Hp}, (∀ a, M' a → M a ∨ H1 a = none) → Fut A1 H1 A' H' → Go A1 M H1 A' M' H' := fun {A' M' H'} hm fu => ⟨(fu.go (M := M)).ix, fun a z => by
    rcases z with z | z
    · exact (fu.go (M := M)).new a (.inl z)
    · exact (hm a z).imp .inr id, (fu.go (M := M)).pr⟩
  have sq : ∀ {A' : List Addr} {M' : Addr → Prop} {H' : Hp}, (∀ a, M' a → M a ∨ H1 a = none) → Fut A1 H1 A' H' → SqT K H' p vs := fun {A' M' H'} hm fu => (show StM K (AM A' M') H' p vs from hr.imp (carry hm fu).rd id).sq
  refine ⟨fun i A' M' μ' H' hm fu ok _ hi => ?_, fun i A' M' μ' H' x H'' d hm fu ok _ hi hy => ?_, fun A' M' μ' H' hm fu ok _ => ?_⟩
  · exact ⟨vs, _, sq hm fu, List.getElem?_eq_getElem (by rw [r.len]; exact hi)⟩
  · obtain ⟨rfl, hx⟩ := hy
    refine ⟨Evl.Ex.refl _, ?_⟩
    obtain ⟨u, hu, ru⟩ := (RepL.go (carry hm fu) r).get hi
    rw [hx vs (sq hm fu)] at hu
    cases hu
    exact ru
  · exact ⟨vs, sq hm fu, by rw [r.len]; exact Nat.le_refl _⟩
theorem gd_cell {A' : List Addr} {M' : Addr → Prop} {μ' : Store} {H' : Hp} {a : Addr} (ok : Ok K A' M' μ' H') (ha : A'[k]? = some a) (hg : gdOk (some (k, xs)) μ' = true) : ∃ vs, H' a = some (.lst vs) ∧ RepL K A' M' H' vs xs := by
  unfold gdOk at hg
  dsimp only at hg
  split at hg
  · rename_i es he
    have := D.beqL_eq hg
    subst this
    obtain ⟨x, vs, h1, h2, _⟩ := (ok.rep k a _ ha he).get
    exact ⟨vs, h1, h2⟩
  · cases hg
theorem i_any (h : EvD K te m) : ItD K (iAny K te) (mIter m) := fun A M μ H σ env items gd μ' ok en e R f => by
  obtain ⟨d, μ1, e1, e2⟩ := Rs.bind_ok e
  obtain ⟨e3, rfl⟩ := Rs.of_ok e2
  unfold itemsOf at e3
  split at e3
  · cases e3
    exact .inl (h A M μ H σ env _ _ ok en e1 _ fun v H1 A1 f1 ok1 ⟨p, vs, e, hl, r⟩ => ⟨p, e, ⟨vs, hl.sq⟩, f _ H1 A1 f1 ok1 (it_seq rfl hl.sqm r)⟩)
  · cases e3
    exact .inl (h A M μ H σ env _ _ ok en e1 _ fun v H1 A1 f1 ok1 ⟨p, vs, e, hl, r⟩ => ⟨p, e, ⟨vs, hl.sq⟩, f _ H1 A1 f1 ok1 (it_seq rfl hl r)⟩)
  · cases e3
    exact .inr (.inl (h A M μ H σ env _ _ ok en e1 _ fun v H1 A1 f1 ok1 ⟨p, vs, e, hl, r⟩ => ⟨p, e, ⟨vs, hl.sq⟩, f _ H1 A1 f1 ok1 (it_seqT rfl hl r)⟩))
  · rename_i l
    cases e3
    refine .inr (.inr (h A M μ H σ env _ _ ok en e1 _ fun v H1 A1 f1 ok1 r => ⟨SX.S l, r, f _ H1 A1 f1 ok1 ?_⟩))
    have sz : (SX.S l).cps.size = l.length := by simp [SX.S]
    refine ⟨fun i A' M' μ' H' hm fu ok _ hi => ?_, fun i A' M' μ' H' x H'' d hm fu ok _ hi hy => ?_, fun A' M' μ' H' hm fu ok _ => ?_⟩
    · rw [List.length_map] at hi
      show i < (SX.S l).cps.size
      rw [sz]
      exact hi
    · obtain ⟨rfl, c, hc, rfl⟩ := hy
      refine ⟨Evl.Ex.refl _, ?_⟩
      have hc2 : l[i]? = some c := by
        rw [← hc]
        simp [SX.S]
      rw [List.getElem?_map, hc2] at hi
      cases hi
      rfl
    · show (SX.S l).cps.size ≤ _
      rw [sz, List.length_map]
      exact Nat.le_refl _
  · split at e3
    · rename_i k xs hc
      cases e3
      refine .inl (h A M μ H σ env _ _ ok en e1 _ fun v H1 A1 f1 ok1 r => ?_)
      obtain ⟨a, rfl, ha⟩ := r
      obtain ⟨vs, h1, h2, _⟩ := cell_rep ok1 ha hc
      refine ⟨a, rfl, ⟨vs, .inl (.inl h1)⟩, f _ H1 A1 f1 ok1 ⟨fun i A' M' μ' H' hm fu ok hg hi => ?_, fun i A' M' μ' H' x H'' d hm fu ok hg hi hy => ?_, fun A' M' μ' H' hm fu ok hg => ?_⟩⟩
      · obtain ⟨ws, g1, g2⟩ := gd_cell ok ((fu.go (M := M)).ix _ _ ha) hg
        exact ⟨ws, _, .inl (.inl g1), List.getElem?_eq_getElem (by rw [g2.len]; exact hi)⟩
      · obtain ⟨ws, g1, g2⟩ := gd_cell ok ((fu.go (M := M)).ix _ _ ha) hg
        obtain ⟨rfl, hx⟩ := hy
        refine ⟨Evl.Ex.refl _, ?_⟩
        obtain ⟨u, hu, ru⟩ := g2.get hi
        rw [hx ws (.inl (.inl g1))] at hu
        cases hu
        exact ru
      · obtain ⟨ws, g1, g2⟩ := gd_cell ok ((fu.go (M := M)).ix _ _ ha) hg
        exact ⟨ws, .inl (.inl g1), by rw [g2.len]; exact Nat.le_refl _⟩
    · cases e3
  · cases e3
def rngL (lo : Int) (n : Nat) : List D := (List.range n).map fun (i : Nat) => .int (lo + (i : Int))
def mRange1 (m : Mo (List D)) : Mo (List D × Gd) := fun env μ => (m env μ).bind fun ds μ1 => match ds with
  | [.int j] => if -1000000 ≤ j ∧ j ≤ 1000000 then .ok (rngL 0 j.toNat, none) μ1 else .no
  | _ => .no
theorem it_rng {A1 : List Addr} {H1 : Hp} {lo : Int} {n : Nat} : ItOkD K (Itr lo n) (rngL lo n) none A1 M H1 := by
  have hl : (rngL lo n).length = n := by simp [rngL]
  refine ⟨fun i A' M' μ' H' hm fu ok _ hi => ?_, fun i A' M' μ' H' x H'' d hm fu ok _ hi hy => ?_, fun A' M' μ' H' hm fu ok _ => ?_⟩
  · rw [hl] at hi
    exact hi
  · obtain ⟨rfl, rfl⟩ := hy
    refine ⟨Evl.Ex.refl _, ?_⟩
    have hlt := (List.getElem?_eq_some_iff.mp hi).1
    rw [hl] at hlt
    unfold rngL at hi
    rw [List.getElem?_map, List.getElem?_range hlt] at hi
    cases hi
    rfl
  · show n ≤ _
    rw [hl]
    exact Nat.le_refl _
theorem i_range1 (h : EvS K tas mas) : ItD K (iRng1 tas) (mRange1 mas) := fun A M μ H σ env items gd μ' ok en e R f => by
  obtain ⟨ds, μ1, e1, e2⟩ := Rs.bind_ok e
  split at e2
  · split at e2
    · rename_i hj
      cases e2
      refine h A M μ H σ env _ _ ok en e1 _ fun vs H1 A1 f1 ok1 r => ?_
      obtain ⟨v, r', rfl, h1, rfl⟩ := r
      cases h1
      exact ⟨_, rfl, by omega, by omega, f _ H1 A1 f1 ok1 it_rng⟩
    · cases e2
  · cases e2
def enumL (xs : List D) : List D := (List.range xs.length).map fun i => .tup [.int (i : Nat), xs.getD i .non]
def mEnum (m : Mo (List D)) : Mo (List D × Gd) := fun env μ => (m env μ).bind fun ds μ1 => match ds with
  | [.str l] => .ok (enumL (l.map fun c => .str [c]), none) μ1
  | [.lst xs] => .ok (enumL xs, none) μ1
  | _ => .no
theorem i_enum (h : EvS K tas mas) : ItD K (iEnumU K tas) (mEnum mas) := fun A M μ H σ env items gd μ' ok en e R f => by
  obtain ⟨ds, μ1, e1, e2⟩ := Rs.bind_ok e
  split at e2
  · rename_i l
    cases e2
    refine .inl (h A M μ H σ env _ _ ok en e1 _ fun vs H1 A1 f1 ok1 r => ?_)
    obtain ⟨v, r', rfl, h1, rfl⟩ := r
    cases h1
    refine ⟨_, rfl, f _ H1 A1 f1 ok1 ?_⟩
    have sz : (SX.S l).cps.size = l.length := by simp [SX.S]
    have hl : (enumL (l.map fun c => D.str [c])).length = l.length := by simp [enumL]
    refine ⟨fun i A' M' μ' H' hm fu ok _ hi => ?_, fun i A' M' μ' H' x H'' d hm fu ok _ hi hy => ?_, fun A' M' μ' H' hm fu ok _ => ?_⟩
    · rw [hl] at hi
      show i < (SX.S l).cps.size
      rw [sz]
      exact hi
    · obtain ⟨T, c, rfl, hT, rfl, hc⟩ := hy
      refine ⟨Evl.Ex.new hT, ?_⟩
      have hc2 : l[i]? = some c := by
        rw [← hc]
        simp [SX.S]
      have hlt := (List.getElem?_eq_some_iff.mp hc2).1
      unfold enumL at hi
      rw [List.length_map, List.getElem?_map, List.getElem?_range hlt] at hi
      cases hi
      refine ⟨T, _, rfl, .of upd_same (ok.fresh hT), _, _, rfl, rfl, _, _, rfl, ?_, rfl⟩
      rw [List.getD_eq_getElem?_getD, List.getElem?_map, hc2]
      rfl
    · show (SX.S l).cps.size ≤ _
      rw [sz, hl]
      exact Nat.le_refl _
  · rename_i xs
    cases e2
    refine .inr (h A M μ H σ env _ _ ok en e1 _ fun vs H1 A1 f1 ok1 r => ?_)
    obtain ⟨v, r', rfl, h1, rfl⟩ := r
    obtain ⟨p, vs, rfl, hr, r⟩ := h1
    refine ⟨p, vs, rfl, hr.sq, f _ H1 A1 f1 ok1 ?_⟩
    have hl : (enumL xs).length = xs.length := by simp [enumL]
    have carry : ∀ {A' : List Addr} {M' : Addr → Prop} {H' : Hp}, (∀ a, M' a → M a ∨ H1 a = none) → Fut A1 H1 A' H' → Go A1 M H1 A' M' H' := fun {A' M' H'} hm fu => ⟨(fu.go (M := M)).ix, fun a z => by
      rcases z with z | z
      · exact (fu.go (M := M)).new a (.inl z)
      · exact (hm a z).imp .inr id, (fu.go (M := M)).pr⟩
    have sq : ∀ {A' : List Addr} {M' : Addr → Prop} {H' : Hp}, (∀ a, M' a → M a ∨ H1 a = none) → Fut A1 H1 A' H' → SqL K H' p vs := fun {A' M' H'} hm fu => .inl (.inl ((carry hm fu).pr _ _ hr.2 hr.1))
    refine ⟨fun i A' M' μ' H' hm fu ok _ hi => ?_, fun i A' M' μ' H' x H'' d hm fu ok _ hi hy => ?_, fun A' M' μ' H' hm fu ok _ => ?_⟩
    · rw [hl] at hi
      exact ⟨vs, _, sq hm fu, List.getElem?_eq_getElem (by rw [r.len]; exact hi)⟩
    · obtain ⟨T, u, rfl, hT, rfl, hu⟩ := hy
      refine ⟨Evl.Ex.new hT, ?_⟩
      have hlt := (List.getElem?_eq_some_iff.mp hi).1
      rw [hl] at hlt
      unfold enumL at hi
      rw [List.getElem?_map, List.getElem?_range hlt] at hi
      cases hi
      obtain ⟨u', hu', ru⟩ := (RepL.go (carry hm fu) r).get (List.getElem?_eq_getElem hlt)
      rw [hu vs (sq hm fu)] at hu'
      cases hu'
      refine ⟨T, _, rfl, .of upd_same (ok.fresh hT), _, _, rfl, rfl, _, _, rfl, ?_, rfl⟩
      rw [List.getD_eq_getElem?_getD, List.getElem?_eq_getElem hlt]
      exact RepD.go (Fut.newO hT).go ru
    · exact ⟨vs, sq hm fu, by rw [hl, r.len]; exact Nat.le_refl _⟩
  · cases e2
end
end My
namespace My
open PySem PySem.Spec PyProof.Rows L2
def mCall (m : List D → Store → Rs D) (ma : Mo (List D)) : Mo D := fun env μ => (ma env μ).bind fun ds μ1 => m ds μ1
section
variable {K : PySem.W.Frag} {A B : List Addr} {M : Addr → Prop} {μ μ' : Store} {H H' : Hp} {v w : V} {d : D} {vs : List V} {xs ds : List D} {k : Nat} {tas : TA} {mas : Mo (List D)} {m : List D → Store → Rs D}
theorem d_call (h : EvS K tas mas) : EvD K (tCall (modSp K m) [] E0 tas) (mCall m mas) := fun A M μ H σ env d μ' ok en e Q f => by
  obtain ⟨ds, μ1, e1, e2⟩ := Rs.bind_ok e
  refine h A M μ H σ env ds μ1 ok en e1 _ fun vs H1 A1 f1 ok1 r1 => ?_
  refine ⟨A1, M, μ1, ds, d, μ', ok1, by rw [List.append_nil]; exact r1, e2, fun v H2 A2 f2 ok2 r2 => f v H2 A2 (f1.trans f2) ok2 r2⟩
theorem RepL.paired : ∀ {ds : List D} {vs : List V}, RepL K A M H vs ds → Paired (RepD K A M H) vs ds
  | [], _, h => by rw [show _ = [] from h]; exact .nil
  | _ :: _, _, ⟨v, r, e, h, t⟩ => by rw [e]; exact .cons h (RepL.paired t)
theorem RepL.of_paired : ∀ {ds : List D} {vs : List V}, Paired (RepD K A M H) vs ds → RepL K A M H vs ds
  | _, _, .nil => rfl
  | _, _, .cons a b => ⟨_, _, rfl, a, RepL.of_paired b⟩
mutual
def undD (n : Nat) : D → Bool
  | .tup ds => undL n ds
  | .lst ds => undL n ds
  | .wl ds => undL n ds
  | .ref k => decide (k < n)
  | .obj _ _ ds => undL n ds
  | .dic _ _ ds => undL n ds
  | .err _ _ ds => undL n ds
  | .fn _ _ _ _ _ ds => undL n ds
  | _ => true
def undL (n : Nat) : List D → Bool
  | [] => true
  | d :: ds => undD n d && undL n ds
end
mutual
theorem RepD.low : ∀ {d : D} {v : V}, undD A.length d = true → RepD K (A ++ B) M H v d → RepD K A M H v d
  | .non, _, _, h => h
  | .bl _, _, _, h => h
  | .int _, _, _, h => h
  | .str _, _, _, h => h
  | .ty _, _, _, h => h
  | .tup _, _, q, ⟨p, vs, e, h, r⟩ => ⟨p, vs, e, h.imp (fun h => ⟨h.1, fun z => h.2 (z.imp (fun z => List.mem_append_left _ z) id)⟩) id, RepL.low q r⟩
  | .lst _, _, q, ⟨p, vs, e, h, r⟩ => ⟨p, vs, e, ⟨h.1, fun z => h.2 (z.imp (fun z => List.mem_append_left _ z) id)⟩, RepL.low q r⟩
  | .wl _, _, q, ⟨p, vs, e, h, r⟩ => ⟨p, vs, e, h.imp (fun h => ⟨h.1, fun z => h.2 (z.imp (fun z => List.mem_append_left _ z) id)⟩) id, RepL.low q r⟩
  | .ref k, _, q, ⟨a, e, h⟩ => ⟨a, e, by rw [List.getElem?_append_left (of_decide_eq_true q)] at h; exact h⟩
  | .cls _, _, _, h => h
  | .obj _ _ _, _, q, ⟨p, x, vs, e, h, l, r⟩ => ⟨p, x, vs, e, ⟨h.1, fun z => h.2 (z.imp (fun z => List.mem_append_left _ z) id)⟩, l, RepL.low q r⟩
  | .dic _ _ _, _, q, ⟨p, vs, e, h, l, r⟩ => ⟨p, vs, e, ⟨h.1, fun z => h.2 (z.imp (fun z => List.mem_append_left _ z) id)⟩, l, RepL.low q r⟩
  | .err _ _ _, _, q, ⟨p, od, vs, e, h, hq, l0, l, r⟩ => ⟨p, od, vs, e, ⟨h.1, fun z => h.2 (z.imp (fun z => List.mem_append_left _ z) id)⟩, fun q z => ⟨(hq q z).1, fun y => (hq q z).2 (y.imp (fun z => List.mem_append_left _ z) id)⟩, l0, l, RepL.low q r⟩
  | .fn _ _ _ _ _ _, _, q, ⟨e, h, vs, s, r⟩ => ⟨e, ⟨h.1, fun z => h.2 (z.imp (fun z => List.mem_append_left _ z) id)⟩, vs, s, RepL.low q r⟩
  | .any, _, _, h => h
theorem RepL.low : ∀ {ds : List D} {vs : List V}, undL A.length ds = true → RepL K (A ++ B) M H vs ds → RepL K A M H vs ds
  | [], _, _, h => h
  | _ :: _, _, q, ⟨v, r, e, h, t⟩ => ⟨v, r, e, RepD.low ((Bool.and_eq_true _ _).mp q).1 h, RepL.low ((Bool.and_eq_true _ _).mp q).2 t⟩
end
mutual
theorem und_of_pure (n : Nat) : ∀ {d : D}, pureD d = true → undD n d = true
  | .non, _ => rfl
  | .bl _, _ => rfl
  | .int _, _ => rfl
  | .str _, _ => rfl
  | .ty _, _ => rfl
  | .tup _, h => undL_of_pure n h
  | .lst _, h => undL_of_pure n h
  | .wl _, h => undL_of_pure n h
  | .ref _, h => nomatch h
  | .cls _, _ => rfl
  | .obj _ _ _, h => undL_of_pure n h
  | .dic _ _ _, h => undL_of_pure n h
  | .err _ _ _, h => undL_of_pure n h
  | .fn _ _ _ _ _ _, h => undL_of_pure n h
  | .any, _ => rfl
theorem undL_of_pure (n : Nat) : ∀ {ds : List D}, pureL ds = true → undL n ds = true
  | [], _ => rfl
  | _ :: _, h => (Bool.and_eq_true _ _).mpr ⟨und_of_pure n ((Bool.and_eq_true _ _).mp h).1, undL_of_pure n ((Bool.and_eq_true _ _).mp h).2⟩
end
def frzC : Cell → D
  | .lst ds => .lst ds
  | .obj c ns ds => .obj c ns ds
  | .dic t ks ds => .dic t ks ds
  | .tbl _ _ => .any
theorem frz_rep {a : Addr} {c : Cell} {A' : List Addr} (h : CellRep K A' M H a c) (na : ¬ AM A M a) (lo : ∀ {vs : List V} {ds : List D}, pureL ds = true → RepL K A' M H vs ds → RepL K A M H vs ds) : RepD K A M H (.ref a) (frzC c) := by
  rcases h with ⟨_, q, rfl, _⟩ | ⟨x, vs, h1, h2, h3, h4⟩
  · exact ⟨a, rfl⟩
  cases c with
  | lst ds => exact ⟨a, vs, rfl, ⟨h1, na⟩, lo h3 h2⟩
  | obj c ns ds =>
    have e := beq_iff_eq.mp (show (ns.length == ds.length) = true from h4)
    exact ⟨a, x, vs, rfl, ⟨h1, na⟩, e.trans h2.len.symm, lo h3 h2⟩
  | dic t ks ds =>
    obtain ⟨g1, g2⟩ := (Bool.and_eq_true _ _).mp (show (ks.length == ds.length && keysOk t ks) = true from h4)
    exact ⟨a, vs, rfl, ⟨⟨.inl h1, fun _ => h1⟩, na⟩, ⟨(beq_iff_eq.mp g1).trans h2.len.symm, g2⟩, lo h3 h2⟩
  | tbl _ q => exact ⟨a, rfl⟩
def finD (n : Nat) (d : D) (μ' : Store) : Rs D := match d with
  | .ref k => if k < n then .ok (.ref k) (μ'.take n) else (match μ'[k]? with
    | some c => .ok (frzC c) (μ'.take n)
    | none => .no)
  | d => if undD n d = true then .ok d (μ'.take n) else .no
def fnD (np nl : Nat) (body : MS) : List D → Store → Rs D := fun ds μ => if ds.length = np then (match body (ds.map some ++ List.replicate nl none) μ with
  | .nx _ μ' => .ok .non (μ'.take μ.length)
  | .rt d μ' => finD μ.length d μ'
  | _ => .no) else .no
def fnK (np nl : Nat) (body : MS) : List D → Store → Rs D := fun ds μ => if ds.length = np then (match body (ds.map some ++ List.replicate nl none) μ with
  | .nx _ μ' => .ok .non μ'
  | .rt d μ' => .ok d μ'
  | _ => .no) else .no
theorem env_start {N : List Str} {nl : Nat} (r : RepL K A M H vs ds) (hN : N.length = ds.length + nl) : EnvRep K A M H (start N vs) (ds.map some ++ List.replicate nl none) := by
  unfold L2.start
  rw [r.len, hN, Nat.add_sub_cancel_left]
  have h1 : ∀ {ds : List D} {vs : List V}, RepL K A M H vs ds → ∀ {x : L2.St} {y : En}, Paired (RepO K A M H) x y → Paired (RepO K A M H) (vs.map some ++ x) (ds.map some ++ y) := by
    intro ds
    induction ds with
    | nil => intro vs h x y p; rw [show vs = [] from h]; exact p
    | cons d ds ih =>
      rintro vs ⟨v, r, rfl, h, t⟩ x y p
      exact .cons h (ih t p)
  refine h1 r ?_
  clear hN
  induction nl with
  | zero => exact .nil
  | succ n ih => exact .cons trivial ih
theorem fin_rep {A' : List Addr} {n : Nat} {d' : D} {μ2 : Store} (f : Fut A H A' H') (ok0 : A.length = n) (ok : Ok K A' M μ' H') (r : RepD K A' M H' v d) (e : finD n d μ' = .ok d' μ2) : Fut A H A H' ∧ Ok K A M μ2 H' ∧ RepD K A M H' v d' := by
  subst ok0
  obtain ⟨B, rfl⟩ := f.pre
  refine ⟨⟨⟨[], by simp⟩, fun a h => .inl h, f.pr⟩, ?_⟩
  unfold finD at e
  split at e
  · rename_i k
    split at e
    · rename_i hk
      cases e
      exact ⟨ok.cellDrop, RepD.low (decide_eq_true hk) r⟩
    · rename_i hk
      split at e
      · rename_i c hc
        cases e
        refine ⟨ok.cellDrop, ?_⟩
        obtain ⟨a, rfl, ha⟩ := r
        refine frz_rep (ok.rep k a c ha hc) (fun z => ?_) (fun h3 h2 => RepL.low (undL_of_pure _ h3) h2)
        rcases z with z | z
        · rw [List.getElem?_append_right (by omega)] at ha
          exact (List.nodup_append.mp ok.nd).2.2 a z a (List.mem_of_getElem? ha) rfl
        · exact ok.dis a (List.mem_of_getElem? ha) z
      · cases e
  · split at e
    · rename_i hl
      cases e
      exact ⟨ok.cellDrop, RepD.low hl r⟩
    · cases e
end
section
variable {P : Program} {w : World} {K : PySem.W.Frag} {mg : Str → Option Value} {base : Heap}
theorem cal_D {x : Str} {st : Stmt} {N ps : List Str} {k nl : Nat} {body : MS} (F : Df K mg x st) (S : FnScope N ps (defScope st)) (hN : N.length = ps.length + nl)
    (hbd : ∀ (kV doc pm : Value) (an : Option Addr) (cdv ct : Value) (us : List Value), us.length = ps.length → bindArgs (PySem.W.fnOf x x (defArgs st) (defBody st) (defScope st) .none kV doc pm an cdv ct) ⟨us, []⟩ = pure (ps.zip us))
    (hb : ∀ (f : Addr) (cdv : Value) (A : Around) (outer : List Env) (s : Shared) (H : Hp) (E : XK), Room k (A.deeper (envOfC x (defScope st) s.heap.objs.size f cdv)) →
      ∃ t, PSs (cxOf CX0 P w K mg base N x (defScope st) f cdv A outer s H E).nox (defBody st) t ∧ StD K none t body) : Cal P w K mg base (k + 1) x ps (modSp K (fnD ps.length nl body)) := by
  refine F.cal S (fun vs H Q E h => ?_) hbd (fun f cdv A outer s H vs Q E hr h => ?_)
  · obtain ⟨A, M, μ, ds, d, μ', ok, r, e, q⟩ := h
    unfold fnD at e
    split at e
    · rename_i hl
      rw [r.len, hl]
    · cases e
  · obtain ⟨A0, M, μ, ds, d, μ', ok, r, e, q⟩ := h
    obtain ⟨t, h1, h2⟩ := hb f cdv A outer s H E hr
    refine ⟨t, h1, ?_⟩
    unfold fnD at e
    split at e
    · rename_i hl
      refine h2 A0 M μ H _ _ _ ok (env_start r (by rw [hl]; exact hN)) ?_
      split at e
      · rename_i en2 μ2 eb
        cases e
        rw [eb]
        intro σ' H' A' f' ok' _
        obtain ⟨B, rfl⟩ := f'.pre
        exact q .non H' A0 ⟨⟨[], by simp⟩, fun a h => .inl h, f'.pr⟩ (by rw [← ok.len]; exact ok'.cellDrop) rfl
      · rename_i d2 μ2 eb
        rw [eb]
        intro v H' A' f' ok' r'
        obtain ⟨g1, g2, g3⟩ := fin_rep f' ok.len ok' r' e
        exact q v H' A0 g1 g2 g3
      · cases e
    · cases e
theorem cal_K {x : Str} {st : Stmt} {N ps : List Str} {k nl : Nat} {body : MS} (F : Df K mg x st) (S : FnScope N ps (defScope st)) (hN : N.length = ps.length + nl)
    (hbd : ∀ (kV doc pm : Value) (an : Option Addr) (cdv ct : Value) (us : List Value), us.length = ps.length → bindArgs (PySem.W.fnOf x x (defArgs st) (defBody st) (defScope st) .none kV doc pm an cdv ct) ⟨us, []⟩ = pure (ps.zip us))
    (hb : ∀ (f : Addr) (cdv : Value) (A : Around) (outer : List Env) (s : Shared) (H : Hp) (E : XK), Room k (A.deeper (envOfC x (defScope st) s.heap.objs.size f cdv)) →
      ∃ t, PSs (cxOf CX0 P w K mg base N x (defScope st) f cdv A outer s H E).nox (defBody st) t ∧ StD K none t body) : Cal P w K mg base (k + 1) x ps (modSp K (fnK ps.length nl body)) := by
  refine F.cal S (fun vs H Q E h => ?_) hbd (fun f cdv A outer s H vs Q E hr h => ?_)
  · obtain ⟨A, M, μ, ds, d, μ', ok, r, e, q⟩ := h
    unfold fnK at e
    split at e
    · rename_i hl
      rw [r.len, hl]
    · cases e
  · obtain ⟨A0, M, μ, ds, d, μ', ok, r, e, q⟩ := h
    obtain ⟨t, h1, h2⟩ := hb f cdv A outer s H E hr
    refine ⟨t, h1, ?_⟩
    unfold fnK at e
    split at e
    · rename_i hl
      refine h2 A0 M μ H _ _ _ ok (env_start r (by rw [hl]; exact hN)) ?_
      split at e
      · rename_i en2 μ2 eb
        cases e
        rw [eb]
        exact fun σ' H' A' f' ok' _ => q .non H' A' f' ok' rfl
      · rename_i d2 μ2 eb
        cases e
        rw [eb]
        exact fun v H' A' f' ok' r' => q v H' A' f' ok' r'
      · cases e
    · cases e
/-- the law's promise, kept by its model -/
def sp_lawM (K : PySem.W.Frag) : Sp := fun vs H Q _ => ∃ (a : Addr) (ns : List Int), vs = [.ref a] ∧ SqL K H a (ns.map V.int) ∧ ns.length ≤ 63 ∧ ∀ H', Q (.bl true) H'
theorem repL_ints {A : List Addr} {M : Addr → Prop} {H : Hp} : ∀ (xs : List Int), RepL K A M H (xs.map V.int) (xs.map D.int)
  | [] => rfl
  | x :: xs => ⟨.int x, _, rfl, rfl, repL_ints xs⟩
theorem law_M {x : Str} {st : Stmt} {N : List Str} {p : Str} {k nl : Nat} {body : MS} {f : Addr} {fd : FuncData} (F : FunD K x x (defArgs st) (defBody st) (defScope st) [] [] f fd) (S : FnScope N [p] (defScope st)) (hN : N.length = 1 + nl)
    (hb : ∀ (cdv : Value) (A : Around) (outer : List Env) (s : Shared) (H : Hp) (E : XK), Room k (A.deeper (envOfC x (defScope st) s.heap.objs.size f cdv)) →
      ∃ t, PSs (cxOf CX0 P w K mg base N x (defScope st) f cdv A outer s H E).nox (defBody st) t ∧ StD K none t body)
    (hm : ∀ ns : List Int, ns.length ≤ 63 → ∃ μ', body (some (.wl (ns.map D.int)) :: List.replicate nl none) [] = .rt (.bl true) μ') : FnOk P w K mg base CX0 (k + 1) f fd [p] (sp_lawM K) := by
  refine FunD_fn F S (fun vs H Q E h => ?_) (fun cdv A outer s H vs Q E hr h => ?_)
  · obtain ⟨a, ns, rfl, _⟩ := h
    rfl
  · obtain ⟨a, ns, rfl, hS, hl, q⟩ := h
    obtain ⟨t, h1, h2⟩ := hb cdv A outer s H E hr
    refine ⟨t, h1, ?_⟩
    obtain ⟨μ', e⟩ := hm ns hl
    have ok : Ok K [] (fun _ => False) [] H := ⟨List.nodup_nil, rfl, fun k a c h => (nomatch h), fun a h => h.elim, fun a h => (nomatch h), fun a h => h.elim⟩
    have r : RepL K [] (fun _ => False) H [.ref a] [.wl (ns.map D.int)] := .one ⟨a, ns.map V.int, rfl, .ofL hS (fun z => z.elim (fun z => nomatch z) id), repL_ints ns⟩
    refine h2 [] _ [] H _ _ _ ok (env_start r hN) ?_
    show Post K none [] _ H _ (body (some (.wl (ns.map D.int)) :: List.replicate nl none) [])
    rw [e]
    intro v H' A' _ _ r'
    rw [show v = _ from r']
    exact q H'
end
end My
namespace My
open PySem PySem.Spec PyProof.Rows L2
section
variable {K : PySem.W.Frag} {te ta tb tc : TE} {m ma mb mc : Mo D} {tt tu : TT} {mt mu : Mo Bool} {tas : TA} {mas : Mo (List D)}
def sPar3 (i j l : Nat) (m : Mo (List D)) : MS := fun env μ => match m env μ with
  | .ok [x, y, z] μ' => .nx (((env.set i (some x)).set j (some y)).set l (some z)) μ'
  | _ => .no
theorem t_par3 {i j l : Nat} (h : EvS K tas mas) : StD K W (tPar3 i j l tas) (sPar3 i j l mas) := fun A M μ H σ env E ok en p => by
  unfold sPar3 at p
  cases e : mas env μ with
  | ok ds μ' =>
    rw [e] at p
    refine h A M μ H σ env ds μ' ok en e _ fun vs H1 A1 f1 ok1 r1 => ?_
    match ds, r1, p with
    | [x, y, z], r1, p =>
      obtain ⟨v, r', rfl, h1, w, r2, rfl, h2, u, r3, rfl, h3, rfl⟩ := r1
      exact ⟨v, w, u, rfl, p _ H1 A1 f1 ok1 ((((en.go f1.go).set i h1).set j h2).set l h3)⟩
    | [], _, p => exact p.elim
    | [_], _, p => exact p.elim
    | [_, _], _, p => exact p.elim
    | _ :: _ :: _ :: _ :: _, _, p => exact p.elim
  | no => rw [e] at p; exact p.elim
  | rz => rw [e] at p; exact p.elim
theorem forGo_nx {tg : Tg} {body : MS} {d : D} {ds : List D} {env env1 env2 : En} {μ μ2 : Store} (h1 : tg d env = some env1) (h2 : body env1 μ = .nx env2 μ2) : forGo none tg body (d :: ds) env μ = forGo none tg body ds env2 μ2 := by
  rw [forGo, if_pos gdOk_none, h1]
  dsimp only
  rw [h2]
/-- an invariant over the items that are left -/
theorem forGo_inv {tg : Tg} {body : MS} (I : List D → En → Store → Prop) (hs : ∀ d ds env μ, I (d :: ds) env μ → ∃ env1, tg d env = some env1 ∧ ∃ env2 μ2, body env1 μ = .nx env2 μ2 ∧ I ds env2 μ2) : ∀ (ds : List D) (env : En) (μ : Store), I ds env μ → ∃ env2 μ2, forGo none tg body ds env μ = .nx env2 μ2 ∧ I [] env2 μ2
  | [], env, μ, h => ⟨env, μ, rfl, h⟩
  | d :: ds, env, μ, h => by
    obtain ⟨env1, h1, env2, μ2, h2, h3⟩ := hs d ds env μ h
    obtain ⟨env3, μ3, h4, h5⟩ := forGo_inv I hs ds env2 μ2 h3
    exact ⟨env3, μ3, (forGo_nx h1 h2).trans h4, h5⟩
theorem lcGo_yes {tg : Tg} {t : Mo Bool} {e : Mo D} {env env1 : En} {μ μ1 μ2 : Store} {d x : D} {ds : List D} (h1 : tg d env = some env1) (h2 : t env1 μ = .ok true μ1) (h3 : e env1 μ1 = .ok x μ2) : lcGo none tg t e env (d :: ds) μ = (lcGo none tg t e env ds μ2).bind fun xs μ3 => .ok (x :: xs) μ3 := by
  rw [lcGo, if_pos gdOk_none, h1]
  dsimp only
  rw [h2, Rs.bind_k, if_pos rfl, h3, Rs.bind_k]
theorem lcGo_skip {tg : Tg} {t : Mo Bool} {e : Mo D} {env env1 : En} {μ μ1 : Store} {d : D} {ds : List D} (h1 : tg d env = some env1) (h2 : t env1 μ = .ok false μ1) : lcGo none tg t e env (d :: ds) μ = lcGo none tg t e env ds μ1 := by
  rw [lcGo, if_pos gdOk_none, h1]
  dsimp only
  rw [h2, Rs.bind_k, if_neg (by decide)]
theorem lcGo_mapM {tg : Tg} {t : Mo Bool} {e : Mo D} {env : En} {μ : Store} {α : Type} (f : α → D) (g : α → D) : ∀ as : List α, (∀ a ∈ as, ∃ env1, tg (f a) env = some env1 ∧ t env1 μ = .ok true μ ∧ e env1 μ = .ok (g a) μ) → lcGo none tg t e env (as.map f) μ = .ok (as.map g) μ
  | [], _ => rfl
  | a :: as, hs => by
    obtain ⟨env1, h1, h2, h3⟩ := hs a (List.mem_cons_self ..)
    rw [List.map_cons, lcGo_yes h1 h2 h3, lcGo_mapM f g as fun b hb => hs b (List.mem_cons_of_mem _ hb)]
    rfl
theorem lcGo_filter {tg : Tg} {t : Mo Bool} {e : Mo D} {env : En} {μ : Store} {α : Type} (f : α → D) (p : α → Bool) (g : α → D) : ∀ as : List α, (∀ a ∈ as, ∃ env1, tg (f a) env = some env1 ∧ t env1 μ = .ok (p a) μ ∧ (p a = true → e env1 μ = .ok (g a) μ)) → lcGo none tg t e env (as.map f) μ = .ok ((as.filter p).map g) μ
  | [], _ => rfl
  | a :: as, hs => by
    obtain ⟨env1, h1, h2, h3⟩ := hs a (List.mem_cons_self ..)
    have ih := lcGo_filter f p g as fun b hb => hs b (List.mem_cons_of_mem _ hb)
    cases hp : p a with
    | true =>
      rw [hp] at h2
      rw [List.map_cons, lcGo_yes h1 h2 (h3 hp), ih, List.filter_cons_of_pos hp]
      rfl
    | false =>
      rw [hp] at h2
      rw [List.map_cons, lcGo_skip h1 h2, ih, List.filter_cons_of_neg (by rw [hp]; decide)]
end
end My
namespace My
open PySem PySem.Spec PyProof.Rows L2
def kyLt (a b : Ky) : Bool := PyProof.Rows.lexLt itemOrd (a.map Sum.inr) (b.map Sum.inr)
theorem kyLt_swo {α : Type} (f : α → Ky) : SrtO.Swo (fun x y => kyLt (f x) (f y)) := by
  refine ⟨fun x y h => ?_, fun x y z h1 h2 => ?_⟩
  · cases h2 : kyLt (f y) (f x) with
    | false => rfl
    | true =>
      have h3 := lex_trans (O := itemOrd) _ _ _ h h2
      rw [lex_irrefl] at h3
      cases h3
  · cases h3 : kyLt (f z) (f x) with
    | false => rfl
    | true =>
      rcases lex_negTrans (O := itemOrd) _ ((f y).map Sum.inr) _ h3 with h | h
      · rw [show PyProof.Rows.lexLt itemOrd _ _ = kyLt (f z) (f y) from rfl, h2] at h; cases h
      · rw [show PyProof.Rows.lexLt itemOrd _ _ = kyLt (f y) (f x) from rfl, h1] at h; cases h
/-- what a value's tuple holds, by the heap -/
def kyV (h : Heap) (v : Value) : Ky := ((tupKey h (fun _ => true) v).getD []).map fun x => match x with
  | .inr c => c
  | .inl _ => []
theorem tupItems_ky : ∀ {k : Ky} {us : List Value} (i : Nat), Vals (k.map sv) us → tupItems (fun _ => true) i us = some (k.map Sum.inr)
  | [], _, i, .nil => rfl
  | c :: k, _, i, .cons r t => by
    obtain ⟨tk, rfl⟩ := r
    rw [tupItems, if_pos rfl, tupItems_ky (i + 1) t]
    rfl
theorem IsKy.key {h : Heap} {v : Value} {k : Ky} (x : IsKy h v k) : tupKey h (fun _ => true) v = some (k.map Sum.inr) := by
  obtain ⟨a, o, us, n, rfl, ho, _, hd, r⟩ := x.ex
  unfold tupKey
  dsimp only
  rw [ho]
  dsimp only
  rw [hd]
  exact tupItems_ky 0 r
theorem IsKy.eq {h : Heap} {v : Value} {k : Ky} (x : IsKy h v k) : kyV h v = k := by
  unfold kyV
  rw [x.key]
  simp [List.map_map, Function.comp_def]
theorem ky_firsts {h : Heap} : ∀ {vs : List Value}, (∀ v ∈ vs, ∃ k, IsKy h v k) → ∃ fs, TupsOf h (fun _ => true) vs fs ∧ fs.length = vs.length
  | [], _ => ⟨[], .nil, rfl⟩
  | v :: vs, hv => by
    obtain ⟨fs, h1, h2⟩ := ky_firsts (vs := vs) fun u hu => hv u (List.mem_cons_of_mem _ hu)
    obtain ⟨k, x⟩ := hv v (List.mem_cons_self ..)
    obtain ⟨a, o, us, n, e, ho, hc, hd, r⟩ := x.ex
    cases k with
    | nil => exact absurd rfl x.ne
    | cons c k =>
      obtain ⟨ul⟩ := us
      cases r with
      | cons r1 r2 =>
        obtain ⟨tk, rfl⟩ := r1
        exact ⟨_ :: fs, .cons ⟨a, o, _, n, e, ho, hc, hd, rfl, fun z => (nomatch z), fun _ => ⟨_, tk, rfl⟩⟩ h1, by rw [List.length_cons, List.length_cons, h2]⟩
theorem ky_sortable {prog : Program} {w : World} {A : Around} {s : Shared} {a : Addr} {vs : List Value} {g : Value → Ky} (h0 : 0 < vs.length) (hp : ∀ v ∈ vs, IsKy s.heap v (g v)) (ha : ∀ o, s.heap.get? a = some o → o.cls ≠ .type "tuple") : SrtO.SortableO prog w A s a vs fun v u => kyLt (g v) (g u) := by
  intro h' keep
  have hp' : ∀ v ∈ vs, IsKy h' v (g v) := fun v hm => (hp v hm).keeps fun b o e c => keep b o (fun z => by subst z; exact ha o e c) e
  obtain ⟨fs, h1, h2⟩ := ky_firsts fun v hm => ⟨_, hp' v hm⟩
  refine ⟨tuples' true, fun Q E hq => tup_kind (s := { s with heap := h' }) (shape := fun _ => true) (by omega) h1 hq, ?_⟩
  intro p q hm hm'
  exact tup_ltAt (s := { s with heap := h' }) (shape := fun _ => true) true _ _ p.1 q.1 _ _ (hp' _ hm).key (hp' _ hm').key ⟨rfl, rfl⟩
abbrev ltZ (x y : V × Ky) : Bool := kyLt x.2 y.2
def rSortedK (K : PySem.W.Frag) : List V → Hp → VK → Prop := fun vs H Q => ∃ (a : Addr) (xs : List V) (ks : List Ky), vs = [V.ref a] ∧ SqL K H a xs ∧ Paired (fun x k => ∃ t, x = V.ref t ∧ k ≠ [] ∧ SqT K H t (k.map sv)) xs ks ∧
  ∀ (zs : List (V × Ky)) p, SrtO.Srtd ltZ zs → SrtO.Stb ltZ zs (xs.zip ks) → H p = none → Q (.ref p) (upd H p (.lst (zs.map Prod.fst)))
theorem ky_vals {X : Cx} {pins : List (Addr × Obj)} {σ : L2.St} {H : Hp} {s : Shared} (I : Inv X pins σ H s) : ∀ {xs : List V} {ks : List Ky} {us : List Value}, Paired (fun x k => ∃ t, x = V.ref t ∧ k ≠ [] ∧ SqT X.K H t (k.map sv)) xs ks → Vals xs us →
    (∀ u ∈ us, IsKy s.heap u (kyV s.heap u)) ∧ us.map (fun u => (backV u, kyV s.heap u)) = xs.zip ks ∧ ∀ u ∈ us, ∃ a, u = Value.ref a
  | _, _, _, .nil, .nil => ⟨fun u h => (nomatch h), rfl, fun u h => nomatch h⟩
  | _, _, _, .cons (a := x) (b := k) hx px, .cons r t => by
    obtain ⟨h1, h2, h3⟩ := ky_vals I px t
    obtain ⟨ad, rfl, hk, hq⟩ := hx
    obtain rfl := (show _ = Value.ref ad from r)
    obtain ⟨its, rv, ⟨o, ho, hc, n, hd⟩, _⟩ := I.tuple hq
    have isk : IsKy s.heap (.ref ad) k := ⟨⟨ad, o, its.toArray, n, rfl, ho, hc, hd, by simpa using rv⟩, hk⟩
    refine ⟨fun u hu => ?_, ?_, fun u hu => ?_⟩
    · rcases List.mem_cons.mp hu with rfl | hu
      · rw [isk.eq]; exact isk
      · exact h1 u hu
    · rw [List.map_cons, h2, isk.eq]
      rfl
    · rcases List.mem_cons.mp hu with rfl | hu
      · exact ⟨ad, rfl⟩
      · exact h3 u hu
theorem cr_sortedK {X : Cx} : CallR X (.builtin "sorted") (rSortedK X.K) := by
  intro pins s σ H vs us Q I r h
  obtain ⟨a, xs, ks, rfl, hs, hx, q⟩ := h
  obtain ⟨its, rv, hl, hz⟩ := I.list hs
  obtain ⟨u, rfl, ru⟩ := vals1 r
  obtain rfl : u = Value.ref a := ru
  obtain ⟨h1, h2, h3⟩ := ky_vals I hx rv
  have hz' : its.length ≤ sizeLine := by rw [← rv.length]; exact hz
  refine SrtO.sorted_ord (kyLt_swo (kyV s.heap)) hl.isList hz' (fun h2 h₁ ad ha kk => ?_) fun out hs hb => ?_
  · refine ky_sortable (s := { s with heap := h₁ }) (by omega) (fun v hm => (h1 v hm).keeps fun b o e _ => (kk b o e).2) fun o e => ?_
    have e' : some o = some (seqObj "list" its.toArray 0) := e.symm.trans ha
    cases e'
    exact fun c => absurd (Value.type.inj c) (by decide)
  · have hout : ∀ u ∈ out, ∃ a, u = Value.ref a := fun u hu => h3 u (hb.perm.mem_iff.mp hu)
    obtain ⟨n, hn⟩ := sortedAll_at s.heap its out.toArray
    have hd : s.heap.objs.size ≤ s.heap.objs.size + 1 := Nat.le_succ _
    have e1 : (out.map fun u => (backV u, kyV s.heap u)).map Prod.fst = out.map backV := by rw [List.map_map]; rfl
    have hb2 := SrtO.Stb.map (lt := ltZ) (kyLt_swo Prod.snd) (fun u => (backV u, kyV s.heap u)) hb
    rw [h2] at hb2
    refine ⟨.ref (s.heap.objs.size + 1), upd H (s.heap.objs.size + 1) (.lst (out.map backV)), I.laid (t' := s.toks) (fun b o e => sortedAll_old e) hd ⟨?_, out, n, vals_back hout, hn⟩, rfl, ?_⟩
    · rw [List.length_map, hb.perm.length_eq]
      exact hz'
    · rw [← e1]
      exact q _ _ (SrtO.srtd_map (lt := ltZ) hs) hb2 (I.hok.fresh hd)
theorem cr_sortedA {X : Cx} {K : PySem.W.Frag} (hK : X.K = K := by rfl) : CallR X (.builtin "sorted") (rSortedK K) := hK ▸ cr_sortedK
section
variable {α : Type} {lt : α → α → Bool}
def insO (lt : α → α → Bool) (x : α) : List α → List α
  | [] => [x]
  | y :: ys => if lt y x = true then y :: insO lt x ys else x :: y :: ys
def sortO (lt : α → α → Bool) (xs : List α) : List α := xs.foldr (insO lt) []
theorem insO_perm (x : α) : ∀ ys, (insO lt x ys).Perm (x :: ys)
  | [] => .refl _
  | y :: ys => by
    unfold insO
    split
    · exact (List.Perm.cons y (insO_perm x ys)).trans (List.Perm.swap x y ys)
    · exact .refl _
theorem insO_srtd (O : SrtO.Swo lt) (x : α) : ∀ {ys}, SrtO.Srtd lt ys → SrtO.Srtd lt (insO lt x ys)
  | [], _ => List.pairwise_singleton _ _
  | y :: ys, h => by
    have h := List.pairwise_cons.mp h
    unfold insO
    split
    · rename_i hl
      refine List.pairwise_cons.mpr ⟨fun z hz => ?_, insO_srtd O x h.2⟩
      rcases List.mem_cons.mp ((insO_perm x ys).mem_iff.mp hz) with rfl | hz
      · exact O.asym _ _ hl
      · exact h.1 z hz
    · rename_i hl
      have hl : lt y x = false := by cases e : lt y x with | true => exact absurd e hl | false => rfl
      refine List.pairwise_cons.mpr ⟨fun z hz => ?_, List.pairwise_cons.mpr h⟩
      rcases List.mem_cons.mp hz with rfl | hz
      · exact hl
      · exact O.tr x y z hl (h.1 z hz)
theorem insO_cls (O : SrtO.Swo lt) (x a : α) : ∀ ys : List α, (insO lt x ys).filter (SrtO.eqv lt a) = (x :: ys).filter (SrtO.eqv lt a)
  | [] => rfl
  | y :: ys => by
    unfold insO
    split
    · rename_i hl
      rw [List.filter_cons, insO_cls O x a ys]
      cases hx : SrtO.eqv lt a x with
      | false => simp [List.filter_cons, hx]
      | true =>
        have hy : SrtO.eqv lt a y = false := by
          cases hy : SrtO.eqv lt a y with
          | false => rfl
          | true =>
            have h1 := SrtO.eqv_iff.mp hx
            have h2 := SrtO.eqv_iff.mp hy
            have h3 := O.tr x a y h1.1 h2.2
            rw [hl] at h3
            cases h3
        simp [List.filter_cons, hx, hy]
    · rfl
theorem sortO_ok (O : SrtO.Swo lt) : ∀ xs : List α, SrtO.Srtd lt (sortO lt xs) ∧ SrtO.Stb lt (sortO lt xs) xs
  | [] => ⟨.nil, .refl _⟩
  | x :: xs => by
    obtain ⟨h1, h2⟩ := sortO_ok O xs
    show SrtO.Srtd lt (insO lt x (sortO lt xs)) ∧ SrtO.Stb lt (insO lt x (sortO lt xs)) (x :: xs)
    refine ⟨insO_srtd O x h1, (insO_perm x _).trans (h2.perm.cons x), fun a => ?_⟩
    rw [insO_cls O, List.filter_cons, List.filter_cons, h2.cls a]
theorem Stb.symm' {l m : List α} (h : SrtO.Stb lt l m) : SrtO.Stb lt m l := ⟨h.perm.symm, fun x => (h.cls x).symm⟩
theorem Stb.trans' {l m n : List α} (h : SrtO.Stb lt l m) (h2 : SrtO.Stb lt m n) : SrtO.Stb lt l n := ⟨h.perm.trans h2.perm, fun x => (h.cls x).trans (h2.cls x)⟩
/-- any sorted and stable arrangement is the model's -/
theorem sortO_uniq (O : SrtO.Swo lt) {zs xs : List α} (h1 : SrtO.Srtd lt zs) (h2 : SrtO.Stb lt zs xs) : zs = sortO lt xs := by
  obtain ⟨h3, h4⟩ := sortO_ok O xs
  exact SrtO.stb_uniq O h1 h3 (Stb.trans' h2 (Stb.symm' h4))
theorem insO_map {β : Type} {lt2 : β → β → Bool} (f : α → β) (hf : ∀ x y, lt x y = lt2 (f x) (f y)) (x : α) : ∀ ys : List α, (insO lt x ys).map f = insO lt2 (f x) (ys.map f)
  | [] => rfl
  | y :: ys => by
    rw [List.map_cons, insO, insO, ← hf]
    split
    · rw [List.map_cons, insO_map f hf x ys]
    · rfl
theorem sortO_map {β : Type} {lt2 : β → β → Bool} (f : α → β) (hf : ∀ x y, lt x y = lt2 (f x) (f y)) : ∀ xs : List α, (sortO lt xs).map f = sortO lt2 (xs.map f)
  | [] => rfl
  | x :: xs => by
    show (insO lt x (sortO lt xs)).map f = insO lt2 (f x) (sortO lt2 (xs.map f))
    rw [insO_map f hf, sortO_map f hf xs]
end
def tkey : D → Option Ky
  | .tup ds => match strsOf ds with
    | some (l :: ls) => some (l :: ls)
    | _ => none
  | _ => none
def kyD (d : D) : Ky := (tkey d).getD []
def lSorted (μ : Store) : List D → Option (List D)
  | [x] => match asS μ x with
    | some xs => if xs.all (fun d => (tkey d).isSome) = true then some (sortO (fun a b => kyLt (kyD a) (kyD b)) xs) else none
    | none => none
  | _ => none
section
variable {K : PySem.W.Frag} {A : List Addr} {M : Addr → Prop} {H : Hp}
theorem repL_keys : ∀ {ds : List D} {vs : List V}, RepL K A M H vs ds → ds.all (fun d => (tkey d).isSome) = true → Paired (fun x k => ∃ t, x = V.ref t ∧ k ≠ [] ∧ SqT K H t (k.map sv)) vs (ds.map kyD)
  | [], _, r, _ => by rw [show _ = [] from r]; exact .nil
  | d :: ds, _, ⟨v, rs, e, h, r⟩, q => by
    rw [List.all_cons, Bool.and_eq_true] at q
    rw [e]
    refine .cons ?_ (repL_keys r q.2)
    cases d with
    | tup es =>
      obtain ⟨p, ws, rfl, h1, h2⟩ := h
      have hq := q.1
      unfold kyD
      unfold tkey at hq ⊢
      dsimp only at hq ⊢
      split at hq
      · rename_i l ls hs
        have := strsOf_rep h2 hs
        subst this
        exact ⟨p, rfl, fun z => (nomatch z), h1.sq⟩
      · cases hq
    | _ => exact nomatch q.1
/-- a list of pairs, its first and second parts -/
theorem repL_zip : ∀ {ds : List D} {vs : List V}, RepL K A M H vs ds → ∀ zs : List (V × D), zs.Perm (vs.zip ds) → RepL K A M H (zs.map Prod.fst) (zs.map Prod.snd) := by
  intro ds vs r zs hp
  have h1 : ∀ z ∈ vs.zip ds, RepD K A M H z.1 z.2 := by
    clear hp
    induction ds generalizing vs with
    | nil => intro z hz; rw [show vs = [] from r] at hz; cases hz
    | cons d ds ih =>
      obtain ⟨v, rs, rfl, h, r⟩ := r
      intro z hz
      rcases List.mem_cons.mp hz with rfl | hz
      · exact h
      · exact ih r z hz
  have h2 : ∀ z ∈ zs, RepD K A M H z.1 z.2 := fun z hz => h1 z (hp.mem_iff.mp hz)
  clear hp h1 r
  induction zs with
  | nil => rfl
  | cons z zs ih => exact ⟨_, _, rfl, h2 z (List.mem_cons_self ..), ih fun y hy => h2 y (List.mem_cons_of_mem _ hy)⟩
theorem zip_map_r {α β γ : Type} (f : β → γ) : ∀ (xs : List α) (ys : List β), xs.zip (ys.map f) = (xs.zip ys).map fun z => (z.1, f z.2)
  | [], _ => rfl
  | _ :: _, [] => rfl
  | x :: xs, y :: ys => by rw [List.map_cons, List.zip_cons_cons, List.zip_cons_cons, List.map_cons, zip_map_r f xs ys]
theorem cc_sorted : CcD K (rSortedK K) lSorted := fun A M μ H vs ds es ok r e Q f => by
  unfold lSorted at e
  split at e
  · split at e
    · rename_i xs hx
      split at e
      · rename_i hk
        cases e
        obtain ⟨v, r', rfl, h1, rfl⟩ := r
        obtain ⟨p, ws, rfl, hs, r⟩ := asS_rep ok h1 hx
        refine ⟨p, ws, xs.map kyD, rfl, hs, repL_keys r hk, fun zs p hz1 hz2 hp => ?_⟩
        have O := kyLt_swo (fun z : V × Ky => z.2)
        have O2 := kyLt_swo (fun z : V × D => kyD z.2)
        have e1 : zs = (sortO (fun a b : V × D => kyLt (kyD a.2) (kyD b.2)) (ws.zip xs)).map fun z => (z.1, kyD z.2) := by
          rw [sortO_map (lt2 := ltZ) (fun z : V × D => (z.1, kyD z.2)) (fun x y => rfl), ← zip_map_r]
          exact sortO_uniq O hz1 hz2
        obtain ⟨h3, h4⟩ := sortO_ok O2 (ws.zip xs)
        have r2 := repL_zip r _ h4.perm
        have e2 : zs.map Prod.fst = (sortO (fun a b : V × D => kyLt (kyD a.2) (kyD b.2)) (ws.zip xs)).map Prod.fst := by
          rw [e1, List.map_map]
          rfl
        have e3 : (sortO (fun a b : V × D => kyLt (kyD a.2) (kyD b.2)) (ws.zip xs)).map Prod.snd = sortO (fun a b => kyLt (kyD a) (kyD b)) xs := by
          rw [sortO_map (lt2 := fun a b => kyLt (kyD a) (kyD b)) Prod.snd (fun x y => rfl), List.map_snd_zip (by rw [r.len]; exact Nat.le_refl _)]
        rw [e2]
        rw [e3] at r2
        exact f p _ hp r2
      · cases e
    · cases e
  · cases e
end
end My
namespace My
open PySem PySem.Spec PyProof.Rows L2
structure ClsOk (K : PySem.W.Frag) (ct : CTab) : Prop where
  cls : ∀ c ∈ ct.names, Cls K (He.ga K c)
  noat : ∀ c ∈ ct.names, ∀ f ∈ ct.fields, NoAttr K (He.ga K c) f
  tyo : ∀ c ∈ ct.names, PySem.W.findIn K (.ref (He.ga K c)) "__class__" = some (some (.builtin "object.__class__")) ∧ PySem.W.mroIn K (He.ga K c) (.type "object") = some true ∧
    PySem.W.findIn K (.ref (He.ga K c)) "__ne__" = some (some (.builtin "object.__ne__")) ∧ PySem.W.subIn K (.ref (He.ga K c)) (.type "object") = some true
  oc : PySem.W.specialIn K (.builtin "object.__class__") "__get__" = some (some (.builtin "getset_descriptor.__get__")) ∧ PySem.W.takesIn K (.builtin "object.__class__") = some true
  isi : ∀ c ∈ ct.names, ∀ c' ∈ ct.names, PySem.W.kitOne K (.ref (He.ga K c)) (.ref (He.ga K c')) = some (isSub ct c c')
  isiT : ∀ t ∈ knownT, ∀ c' ∈ ct.names, PySem.W.kitOne K (.type t) (.ref (He.ga K c')) = some false
  isiB : ∀ c ∈ ct.names, ∀ t ∈ knownC, PySem.W.kitOne K (.ref (He.ga K c)) (.type t) = some false
  nf : ∀ c ∈ ct.names, ∀ c' ∈ ct.names, (c == c' || !isSub ct c' c) = true → PySem.W.notFirst K (He.ga K c) (.ref (He.ga K c')) = true
theorem ctB_ok {K : PySem.W.Frag} {ct : CTab} (h : ctB K ct = true) : ClsOk K ct := by
  obtain ⟨h0, h9⟩ := He.ba h
  obtain ⟨o1, o2⟩ := He.ba h9
  have key : ∀ c ∈ ct.names, _ := fun c hc => He.ba (List.all_eq_true.mp h0 c hc)
  have k2 : ∀ c ∈ ct.names, _ := fun c hc => He.ba (key c hc).2
  have k3 : ∀ c ∈ ct.names, _ := fun c hc => He.ba (k2 c hc).2
  have k4 : ∀ c ∈ ct.names, _ := fun c hc => He.ba (k3 c hc).2
  have k5 : ∀ c ∈ ct.names, _ := fun c hc => He.ba (k4 c hc).2
  have k6 : ∀ c ∈ ct.names, _ := fun c hc => He.ba (k5 c hc).2
  have k7 : ∀ c ∈ ct.names, _ := fun c hc => He.ba (k6 c hc).2
  have k8 : ∀ c ∈ ct.names, _ := fun c hc => He.ba (k7 c hc).2
  exact ⟨fun c hc => He.cls_ok (key c hc).1, fun c hc f hf => He.noat_ok (List.all_eq_true.mp (k2 c hc).1 f hf),
    fun c hc => ⟨of_decide_eq_true (k3 c hc).1, of_decide_eq_true (k4 c hc).1, of_decide_eq_true (k5 c hc).1, of_decide_eq_true (k6 c hc).1⟩, ⟨of_decide_eq_true o1, of_decide_eq_true o2⟩,
    fun c hc c' hc' => of_decide_eq_true (He.ba (List.all_eq_true.mp (k7 c hc).1 c' hc')).1, fun t ht c hc => of_decide_eq_true (List.all_eq_true.mp (k8 c hc).2 t ht),
    fun c hc t ht => of_decide_eq_true (List.all_eq_true.mp (k8 c hc).1 t ht), fun c hc c' hc' z => by
      have := (He.ba (List.all_eq_true.mp (k7 c hc).1 c' hc')).2
      rw [z] at this
      exact this⟩
def clsOf (μ : Store) : D → Option (String × List String × List D)
  | .obj c ns ds => some (c, ns, ds)
  | .ref k => match μ[k]? with
    | some (.obj c ns ds) => some (c, ns, ds)
    | _ => none
  | _ => none
section
variable {K : PySem.W.Frag} {A : List Addr} {M : Addr → Prop} {μ μ' : Store} {H H' : Hp} {v w : V} {d : D} {xs ds : List D} {k : Nat} {te ta tb : TE} {m ma mb : Mo D} {tas tks : TA} {mas mks : Mo (List D)} {c : String} {ns : List String} {ct : CTab}
theorem clsOf_rep (ok : Ok K A M μ H) (r : RepD K A M H v d) (e : clsOf μ d = some (c, ns, ds)) : ∃ a x vs, v = .ref a ∧ H a = some (.ins (He.ga K c) x ((nmS ns).zip vs)) ∧ ns.length = vs.length ∧ RepL K A M H vs ds := by
  cases d <;> try (cases e; done)
  · rename_i j
    obtain ⟨a, rfl, ha⟩ := r
    unfold clsOf at e
    dsimp only at e
    split at e
    · rename_i c' ns' ds' hk
      cases e
      obtain ⟨x, vs, h1, h2, _, h4⟩ := (ok.rep j a _ ha hk).get
      exact ⟨a, x, vs, rfl, h1, (beq_iff_eq.mp (show (ns.length == ds.length) = true from h4)).trans h2.len.symm, h2⟩
    · cases e
  · cases e
    obtain ⟨a, x, vs, rfl, h, l, r⟩ := r
    exact ⟨a, x, vs, rfl, h.1, l, r⟩
def getF (f : String) : List String → List D → Option D
  | n :: ns, d :: ds => if n = f then some d else getF f ns ds
  | _, _ => none
theorem getF_rep {f : String} {e : D} : ∀ {ns : List String} {ds : List D} {vs : List V}, RepL K A M H vs ds → getF f ns ds = some e → ∃ u, ((nmS ns).zip vs).lookup (f : Str) = some u ∧ RepD K A M H u e
  | [], _, _, _, h => nomatch h
  | _ :: _, [], _, _, h => nomatch h
  | n :: ns, d :: ds, _, ⟨u, us, eu, h1, h2⟩, h => by
    subst eu
    unfold getF at h
    show ∃ u', List.lookup (f : Str) ((Str.ofString n, u) :: (nmS ns).zip us) = some u' ∧ _
    split at h
    · rename_i e
      cases h
      subst e
      exact ⟨u, by rw [List.lookup_cons, beq_self_eq_true], h1⟩
    · rename_i e
      obtain ⟨u', h3, h4⟩ := getF_rep h2 h
      refine ⟨u', ?_, h4⟩
      rw [List.lookup_cons, show ((f : Str) == Str.ofString n) = false from beq_eq_false_iff_ne.mpr fun z => e (ofString_inj z).symm]
      exact h3
theorem noF_rep {f : String} : ∀ {ns : List String} {vs : List V}, ns.contains f = false → ((nmS ns).zip vs).lookup (f : Str) = none
  | [], _, _ => rfl
  | _ :: _, [], _ => rfl
  | n :: ns, v :: vs, h => by
    rw [List.contains_cons, Bool.or_eq_false_iff] at h
    show List.lookup (f : Str) ((Str.ofString n, v) :: (nmS ns).zip vs) = none
    rw [List.lookup_cons, show ((f : Str) == Str.ofString n) = false from beq_eq_false_iff_ne.mpr fun z => by
      have := ofString_inj z
      rw [this, beq_self_eq_true] at h
      cases h.1]
    exact noF_rep h.2
def mFld (ct : CTab) (f : String) (o : Mo D) : Mo D := fun env μ => (o env μ).bind fun x μ1 => match clsOf μ1 x with
  | some (c, ns, ds) => if ct.names.contains c = true ∧ ct.fields.contains f = true then Rs.of (getF f ns ds) μ1 else .no
  | none => .no
theorem d_fld {f : String} (G : ClsOk K ct) (h : EvD K ta ma) : EvD K (tFld K ta (f : Str)) (mFld ct f ma) := fun A M μ H σ env d μ' ok en e Q q => by
  obtain ⟨x, μ1, e1, e2⟩ := Rs.bind_ok e
  split at e2
  · rename_i c ns ds hc
    split at e2
    · rename_i hn
      obtain ⟨e3, rfl⟩ := Rs.of_ok e2
      refine h A M μ H σ env x _ ok en e1 _ fun v H1 A1 f1 ok1 r1 => ?_
      obtain ⟨a, y, vs, rfl, h1, hl, r2⟩ := clsOf_rep ok1 r1 hc
      obtain ⟨u, h3, h4⟩ := getF_rep r2 e3
      exact ⟨a, _, y, _, u, rfl, h1, G.cls c (by simpa using hn.1), G.noat c (by simpa using hn.1) f (by simpa using hn.2), h3, q u H1 A1 f1 ok1 h4⟩
    · cases e2
  · cases e2
def putC {α : Type} (f : String) (d : α) : List String → List α → List String × List α
  | n :: ns, x :: xs => if n = f then (n :: ns, d :: xs) else (n :: (putC f d ns xs).1, x :: (putC f d ns xs).2)
  | _, _ => ([f], [d])
theorem putC_len {α : Type} {f : String} {d : α} : ∀ {ns : List String} {xs : List α}, ns.length = xs.length → (putC f d ns xs).1.length = (putC f d ns xs).2.length
  | [], _, _ => rfl
  | _ :: _, [], h => nomatch h
  | n :: ns, x :: xs, h => by
    unfold putC
    split
    · exact h
    · exact congrArg Nat.succ (putC_len (Nat.succ.inj h))
theorem putC_fst {α β : Type} {f : String} {d : α} {e : β} : ∀ {ns : List String} {xs : List α} {ys : List β}, xs.length = ys.length → (putC f d ns xs).1 = (putC f e ns ys).1
  | [], _, _, _ => rfl
  | _ :: _, [], [], _ => rfl
  | _ :: _, [], _ :: _, h => nomatch h
  | _ :: _, _ :: _, [], h => nomatch h
  | n :: ns, x :: xs, y :: ys, h => by
    unfold putC
    split
    · rfl
    · exact congrArg (n :: ·) (putC_fst (Nat.succ.inj h))
theorem putC_rep {f : String} {e : D} {u : V} (hu : RepD K A M H u e) : ∀ {ns : List String} {ds : List D} {vs : List V}, ns.length = vs.length → RepL K A M H vs ds → RepL K A M H (putC f u ns vs).2 (putC f e ns ds).2
  | [], _, _, _, _ => ⟨u, [], rfl, hu, rfl⟩
  | _ :: _, [], vs, l, h => by
    rw [show vs = [] from h] at l
    cases l
  | n :: ns, d :: ds, _, l, ⟨v, vs, ev, h1, h2⟩ => by
    subst ev
    unfold putC
    split
    · exact ⟨u, vs, rfl, hu, h2⟩
    · exact ⟨v, _, rfl, h1, putC_rep hu (Nat.succ.inj l) h2⟩
theorem putC_put {f : String} {u : V} : ∀ {ns : List String} {vs : List V}, ns.length = vs.length → putF (f : Str) u ((nmS ns).zip vs) = (nmS (putC f u ns vs).1).zip (putC f u ns vs).2
  | [], [], _ => rfl
  | [], _ :: _, h => nomatch h
  | _ :: _, [], h => nomatch h
  | n :: ns, v :: vs, h => by
    show (if Str.ofString n = (f : Str) then (Str.ofString n, u) :: (nmS ns).zip vs else (Str.ofString n, v) :: putF (f : Str) u ((nmS ns).zip vs)) = _
    unfold putC
    by_cases e : n = f
    · subst e
      rw [if_pos rfl, if_pos rfl]
      rfl
    · rw [if_neg (fun z => e (ofString_inj z)), if_neg e, putC_put (Nat.succ.inj h)]
      rfl
theorem putC_pure {f : String} {e : D} : ∀ {ns : List String} {ds : List D}, pureL ds = true → pureD e = true → pureL (putC f e ns ds).2 = true
  | [], _, _, he => by
    show (pureD e && true) = true
    rw [he]; rfl
  | _ :: _, [], _, he => by
    show (pureD e && true) = true
    rw [he]; rfl
  | n :: ns, d :: ds, h, he => by
    have h := (Bool.and_eq_true _ _).mp h
    unfold putC
    split
    · exact (Bool.and_eq_true _ _).mpr ⟨he, h.2⟩
    · exact (Bool.and_eq_true _ _).mpr ⟨h.1, putC_pure h.2 he⟩
def sSetF (ct : CTab) (f : String) (e o : Mo D) : MS := fun env μ => match e env μ with
  | .ok y μ0 => (match o env μ0 with
    | .ok (.ref k) μ1 => (match μ1[k]? with
      | some (.obj c ns ds) => if pureD y = true ∧ ns.length < 900 ∧ ct.names.contains c = true ∧ ct.fields.contains f = true then .nx env (μ1.set k (.obj c (putC f y ns ds).1 (putC f y ns ds).2)) else .no
      | _ => .no)
    | _ => .no)
  | _ => .no
theorem t_setF {f : String} (G : ClsOk K ct) (h : EvD K te m) (ho : EvD K ta ma) : StD K W (sFld K ta te (f : Str)) (sSetF ct f m ma) := fun A M μ H σ env E ok en p => by
  unfold sSetF at p
  cases e : m env μ with
  | no => rw [e] at p; exact p.elim
  | rz => rw [e] at p; exact p.elim
  | ok y μ0 =>
    rw [e] at p
    dsimp only at p
    refine h A M μ H σ env y μ0 ok en e _ fun v H1 A1 f1 ok1 r1 => ?_
    split at p
    · rename_i k μ1 e1
      refine ho A1 M μ0 H1 σ env _ _ ok1 (en.go f1.go) e1 _ fun w H2 A2 f2 ok2 r2 => ?_
      obtain ⟨a, rfl, ha⟩ := r2
      split at p
      · rename_i c ns ds hk
        split at p
        · rename_i hp
          obtain ⟨x, vs, h1, h2, h3, h4⟩ := (ok2.rep k a _ ha hk).get
          have hl : ns.length = ds.length := beq_iff_eq.mp (show (ns.length == ds.length) = true from h4)
          have hlv : ns.length = vs.length := hl.trans h2.len.symm
          have r1' := RepD.go f2.go r1
          have e1 : (putC f v ns vs).1 = (putC f y ns ds).1 := putC_fst h2.len
          obtain ⟨ok3, f3⟩ := ok2.cellSet (x := x) (vs := (putC f v ns vs).2) (c := .obj c (putC f y ns ds).1 (putC f y ns ds).2) ha (putC_rep r1' hlv h2) (putC_pure h3 hp.1) (by
            show ((putC f y ns ds).1.length == (putC f y ns ds).2.length) = true
            rw [putC_len hl]
            exact beq_self_eq_true _)
          have fu := f1.trans (f2.trans f3)
          refine ⟨a, _, x, _, rfl, h1, G.cls c (by simpa using hp.2.2.1), G.noat c (by simpa using hp.2.2.1) f (by simpa using hp.2.2.2), ?_, ?_⟩
          · rw [List.length_zip]
            unfold nmS
            rw [List.length_map]
            omega
          · rw [putC_put hlv, e1]
            exact p σ _ A2 fu ok3 (en.go fu.go)
        · exact p.elim
      · exact p.elim
    · exact p.elim
theorem RepL.perm {vs : List V} {ds : List D} (r : RepL K A M H vs ds) (js : List Nat) : RepL K A M H (perm js vs) (perm js ds) := RepL.of_paired (perm_rel r.paired js)
def mMethP (ct : CTab) (cs : List String) (nm : String) (n mm : Nat) (f : List D → Store → Rs D) (js : List Nat) (dd : List D) (o : Mo D) (a k : Mo (List D)) : Mo D := fun env μ => (o env μ).bind fun x μ0 => match clsOf μ0 x with
  | some (c, ns, _) => if cs.contains c = true ∧ ct.names.contains c = true ∧ ns.contains nm = false then (a env μ0).bind fun ds μ1 => (k env μ1).bind fun es μ2 => if ds.length = n ∧ es.length = mm then f (perm js ((x :: ds) ++ dd ++ es)) μ2 else .no else .no
  | none => .no
theorem d_methPs {sp : Sp} {cs : List String} {nm : String} {a : Addr} {n mm : Nat} {f : List D → Store → Rs D} {js : List Nat} {dd : List D} {dvs : List V} {E : L2.St → XK} (hsp : ∀ vs H Q E, modSp K f vs H Q E → sp vs H Q E) (G : ClsOk K ct) (hm : ∀ c ∈ cs, Meth K (He.ga K c) (nm : Str) a) (hd : ∀ A M H, RepL K A M H dvs dd)
    (h0 : EvD K ta ma) (h : EvS K tas mas) (hk : EvS K tks mks) : EvD K (tMethP K (nm : Str) a n mm sp js dvs E ta tas tks) (mMethP ct cs nm n mm f js dd ma mas mks) := fun A M μ H σ env d μ' ok en e Q q => by
  obtain ⟨x, μ0, e0, e⟩ := Rs.bind_ok e
  split at e
  · rename_i c ns _ hc
    split at e
    · rename_i hcs
      obtain ⟨ds, μ1, e1, e2⟩ := Rs.bind_ok e
      obtain ⟨es, μ2, e3, e4⟩ := Rs.bind_ok e2
      split at e4
      · rename_i hn
        refine h0 A M μ H σ env x μ0 ok en e0 _ fun v H0 A0 f0 ok0 r0 => ?_
        obtain ⟨b, y, us, rfl, hb, hl, _⟩ := clsOf_rep ok0 r0 hc
        refine ⟨b, _, y, _, rfl, hb, G.cls c (by simpa using hcs.2.1), hm c (by simpa using hcs.1), noF_rep hcs.2.2, ?_⟩
        refine h A0 M μ0 H0 σ env ds μ1 ok0 (en.go f0.go) e1 _ fun vs H1 A1 f1 ok1 r1 => hk A1 M μ1 H1 σ env es μ2 ok1 (en.go (f0.trans f1).go) e3 _ fun zs H2 A2 f2 ok2 r2 => ⟨by rw [r1.len]; exact hn.1, by rw [r2.len]; exact hn.2, ?_⟩
        have rx : RepL K A2 M H2 (V.ref b :: vs) (x :: ds) := ⟨_, _, rfl, RepD.go (f1.trans f2).go r0, RepL.go f2.go r1⟩
        exact hsp _ _ _ _ ⟨A2, M, μ2, _, d, μ', ok2, ((rx.app (hd _ _ _)).app r2).perm js, e4, fun v H3 A3 f3 ok3 r3 => q v H3 A3 (((f0.trans f1).trans f2).trans f3) ok3 r3⟩
      · cases e4
    · cases e
  · cases e
def mPropP (ct : CTab) (cs : List String) (f : List D → Store → Rs D) (o : Mo D) : Mo D := fun env μ => (o env μ).bind fun x μ0 => match clsOf μ0 x with
  | some (c, _, _) => if cs.contains c = true ∧ ct.names.contains c = true then f [x] μ0 else .no
  | none => .no
theorem d_propP {cs : List String} {nm : Str} {a : Addr} {f : List D → Store → Rs D} {E : L2.St → XK} (G : ClsOk K ct) (hm : ∀ c ∈ cs, ∃ p, PropOf K (He.ga K c) nm p a) (h0 : EvD K ta ma) : EvD K (tPropP K nm a (modSp K f) E ta) (mPropP ct cs f ma) := fun A M μ H σ env d μ' ok en e Q q => by
  obtain ⟨x, μ0, e0, e⟩ := Rs.bind_ok e
  split at e
  · rename_i c ns ds hc
    split at e
    · rename_i hcs
      refine h0 A M μ H σ env x μ0 ok en e0 _ fun v H0 A0 f0 ok0 r0 => ?_
      obtain ⟨b, y, us, rfl, hb, hl, _⟩ := clsOf_rep ok0 r0 hc
      obtain ⟨p, hp⟩ := hm c (by simpa using hcs.1)
      exact ⟨b, _, y, _, p, rfl, hb, G.cls c (by simpa using hcs.2), hp, A0, M, μ0, [x], d, μ', ok0, .one r0, e, fun v H3 A3 f3 ok3 r3 => q v H3 A3 (f0.trans f3) ok3 r3⟩
    · cases e
  · cases e
def mMakeP (live : Bool) (c : String) (init : List D → Store → Rs D) (n mm : Nat) (js : List Nat) (dd : List D) (fm : Mo D) (a k : Mo (List D)) : Mo D := fun env μ => (fm env μ).bind fun x μ0 => match x with
  | .cls c' => if c' = c then (a env μ0).bind fun ds μ1 => (k env μ1).bind fun es μ2 => if ds.length = n ∧ es.length = mm then (init (perm js ((.ref μ2.length :: ds) ++ dd ++ es)) (μ2 ++ [.obj c [] []])).bind fun r μ3 => match r with
    | .non => if live = true then .ok (.ref μ2.length) μ3 else (match μ3[μ2.length]? with
      | some cell => .ok (frzC cell) (μ3.take μ2.length)
      | none => .no)
    | _ => .no else .no else .no
  | _ => .no
theorem d_makePs {sp : Sp} {live : Bool} {init : List D → Store → Rs D} {n mm : Nat} {js : List Nat} {dd : List D} {dvs : List V} {E : L2.St → XK} {tf : TE} {mf : Mo D} (hsp : ∀ vs H Q E, modSp K init vs H Q E → sp vs H Q E) (hd : ∀ A M H, RepL K A M H dvs dd) (h0 : EvD K tf mf) (h : EvS K tas mas) (hk : EvS K tks mks) :
    EvD K (tMakeP (He.ga K c) n mm sp js dvs E tf tas tks) (mMakeP live c init n mm js dd mf mas mks) := fun A M μ H σ env d μ' ok en e Q q => by
  obtain ⟨x, μ0, e0, e⟩ := Rs.bind_ok e
  split at e
  · rename_i c'
    split at e
    · rename_i hc
      subst hc
      obtain ⟨ds, μ1, e1, e2⟩ := Rs.bind_ok e
      obtain ⟨es, μ2, e3, e4⟩ := Rs.bind_ok e2
      split at e4
      · rename_i hn
        obtain ⟨r, μ3, e5, e6⟩ := Rs.bind_ok e4
        refine h0 A M μ H σ env _ μ0 ok en e0 _ fun v H0 A0 f0 ok0 r0 => ⟨r0, ?_⟩
        refine h A0 M μ0 H0 σ env ds μ1 ok0 (en.go f0.go) e1 _ fun vs H1 A1 f1 ok1 r1 => hk A1 M μ1 H1 σ env es μ2 ok1 (en.go (f0.trans f1).go) e3 _ fun zs H2 A2 f2 ok2 r2 => ⟨by rw [r1.len]; exact hn.1, by rw [r2.len]; exact hn.2, fun y dy hy hdy hne => ?_⟩
        have ok3 := ok2.new (o := .own y) hdy
        have fd : Fut A2 H2 A2 (upd H2 dy (.own y)) := .newO hdy
        have hy2 : upd H2 dy (.own y) y = none := by rw [upd_ne (fun z => hne z.symm)]; exact hy
        obtain ⟨ok4, f4⟩ := ok3.cellNew (x := dy) (vs := []) (c := .obj c' [] []) hy2 rfl rfl rfl
        have f24 := fd.trans f4
        have hlen : A2.length = μ2.length := ok2.len
        have rx : RepL K (A2 ++ [y]) M (upd (upd H2 dy (.own y)) y (.ins (He.ga K c') dy [])) (V.ref y :: vs) (.ref μ2.length :: ds) := ⟨_, _, rfl, ⟨y, rfl, by rw [← hlen]; simp⟩, RepL.go (f2.trans f24).go r1⟩
        refine hsp _ _ _ _ ⟨A2 ++ [y], M, μ2 ++ [.obj c' [] []], _, r, μ3, ok4, ((rx.app (hd _ _ _)).app (RepL.go f24.go r2)).perm js, e5, fun v5 H5 A5 f5 ok5 r5 => ?_⟩
        have hr : r = .non ∧ (if live = true then Rs.ok (D.ref μ2.length) μ3 else (match μ3[μ2.length]? with | some cell => Rs.ok (frzC cell) (μ3.take μ2.length) | none => .no)) = .ok d μ' := by
          cases r <;> first | exact ⟨rfl, e6⟩ | cases e6
        obtain ⟨rfl, e7⟩ := hr
        refine ⟨r5, ?_⟩
        have fAll : Fut A H A5 H5 := ((f0.trans f1).trans f2).trans (f24.trans f5)
        obtain ⟨B, hB⟩ := f5.pre
        split at e7
        · cases e7
          refine q _ H5 A5 fAll ok5 ⟨y, rfl, ?_⟩
          rw [hB, ← hlen]
          simp
        · split at e7
          · rename_i cell hcell
            cases e7
            have hyA : A5[μ2.length]? = some y := by
              rw [hB, ← hlen]
              simp
            subst hB
            have ok6 : Ok K (A2 ++ ([y] ++ B)) M μ3 H5 := by rw [← List.append_assoc]; exact ok5
            have f6 : Fut A H A2 H5 := by
              have f02 := (f0.trans f1).trans f2
              refine ⟨f02.pre, f02.new, fun a o ha ho => ?_⟩
              exact fAll.pr a o ha ho
            refine q _ H5 A2 f6 (by rw [← hlen]; exact ok6.cellDrop) (frz_rep (ok5.rep μ2.length y cell hyA hcell) (fun z => ?_) (fun h3 h2 => ?_))
            · rcases z with z | z
              · exact (List.nodup_append.mp ok6.nd).2.2 y z y (by simp) rfl
              · exact ok5.dis y (List.mem_of_getElem? hyA) z
            · exact RepL.low (B := [y] ++ B) (undL_of_pure _ h3) (by rw [← List.append_assoc]; exact h2)
          · cases e7
      · cases e4
    · cases e
  · cases e
theorem d_cls : EvD K (tC (.ref (He.ga K c))) (mC (.cls c)) := d_c fun _ _ _ => rfl
end
end My
namespace My
open PySem PySem.Spec PyProof.Rows L2
abbrev OTab := List (String × (List D → Store → Rs D))
/-- the own methods nm that a table tells -/
def ownL (K : PySem.W.Frag) (nm : String) (tab : OTab) : List (Addr × Sp) := tab.map fun p => (He.ma K (He.ga K p.1) (nm : Str), modSp K p.2)
/-- what the head tells of them -/
def OwnOk (K : PySem.W.Frag) (nm : String) (tab : OTab) : Prop := ∀ p ∈ tab, Meth K (He.ga K p.1) (nm : Str) (He.ma K (He.ga K p.1) (nm : Str))
theorem lookup_mem {tab : OTab} {c : String} {f : List D → Store → Rs D} (h : tab.lookup c = some f) : (c, f) ∈ tab := by
  induction tab with
  | nil => cases h
  | cons p tab ih =>
    rw [List.lookup_cons] at h
    split at h
    · rename_i e
      cases h
      rw [beq_iff_eq.mp e]
      exact List.mem_cons_self
    · exact List.mem_cons_of_mem _ (ih h)
section
variable {K : PySem.W.Frag} {A : List Addr} {M : Addr → Prop} {μ μ' : Store} {H H' : Hp} {v w : V} {d : D} {xs ds : List D} {k : Nat} {te ta tb : TE} {m ma mb : Mo D} {tas tks : TA} {mas mks : Mo (List D)} {c : String} {ns : List String} {ct : CTab}
def mEqA (ct : CTab) (neg : Bool) (tab : OTab) (a b : Mo D) : Mo D := fun env μ => (a env μ).bind fun x μ1 => (b env μ1).bind fun y μ2 => match clsOf μ2 x with
  | some (c, _, _) => (match tab.lookup c, clsOf μ2 y with
    | some f, some (c', _, _) => if ct.names.contains c = true ∧ ct.names.contains c' = true ∧ (c == c' || !isSub ct c' c) = true then (f [x, y] μ2).bind fun r μ3 => match r with
      | .bl z => .ok (.bl (if neg = true then !z else z)) μ3
      | _ => .no else .no
    | _, _ => .no)
  | none => Rs.of (if neg = true then dNe μ2 x y else dEq μ2 x y) μ2
theorem eqA_core {neg : Bool} {tab : OTab} {x y : D} {vx vy : V} {μ2 : Store} {H2 : Hp} {A2 : List Addr} (G : ClsOk K ct) (O : OwnOk K "__eq__" tab) (ok2 : Ok K A2 M μ2 H2) (rx : RepD K A2 M H2 vx x) (ry : RepD K A2 M H2 vy y)
    (e : (match clsOf μ2 x with
      | some (c, _, _) => (match tab.lookup c, clsOf μ2 y with
        | some f, some (c', _, _) => if ct.names.contains c = true ∧ ct.names.contains c' = true ∧ (c == c' || !isSub ct c' c) = true then (f [x, y] μ2).bind fun r μ3 => match r with
          | .bl z => Rs.ok (D.bl (if neg = true then !z else z)) μ3
          | _ => .no else .no
        | _, _ => .no)
      | none => Rs.of (if neg = true then dNe μ2 x y else dEq μ2 x y) μ2) = .ok d μ') {Q : VK} (q : ∀ v H' A', Fut A2 H2 A' H' → Ok K A' M μ' H' → RepD K A' M H' v d → Q v H') :
    if neg = true then rNeA K (ownL K "__eq__" tab) vx vy H2 Q else rEqA K (ownL K "__eq__" tab) vx vy H2 Q := by
  split at e
  · rename_i c ns1 ds1 hx
    split at e
    · rename_i f c' ns2 ds2 hf hy
      split at e
      · rename_i hc
        obtain ⟨r, μ3, e1, e2⟩ := Rs.bind_ok e
        split at e2
        · rename_i z
          cases e2
          obtain ⟨a, xa, us, rfl, ha, _, _⟩ := clsOf_rep ok2 rx hx
          obtain ⟨b, xb, ws, rfl, hb, _, _⟩ := clsOf_rep ok2 ry hy
          have hm := lookup_mem hf
          have mt := O _ hm
          have h1 : c ∈ ct.names := by simpa using hc.1
          have h2 : c' ∈ ct.names := by simpa using hc.2.1
          have hl : (He.ma K (He.ga K c) ("__eq__" : Str), modSp K f) ∈ ownL K "__eq__" tab := List.mem_map_of_mem hm
          cases neg with
          | false =>
            rw [if_neg (by decide)]
            refine .inr ⟨a, _, xa, _, b, _, xb, _, _, _, rfl, rfl, ha, hb, G.nf c h1 c' h2 hc.2.2, mt.at_, mt.fn, hl, A2, M, μ2, [x, y], .bl z, _, ok2, ⟨_, _, rfl, rx, .one ry⟩, e1, fun v H3 A3 f3 ok3 r3 => q v H3 A3 f3 ok3 r3⟩
          | true =>
            rw [if_pos rfl]
            obtain ⟨_, _, n1, n2⟩ := G.tyo c h1
            refine .inr ⟨a, _, xa, _, b, _, xb, _, _, _, rfl, rfl, ha, hb, G.nf c h1 c' h2 hc.2.2, n1, n2, mt.at_, mt.fn, hl, A2, M, μ2, [x, y], .bl z, _, ok2, ⟨_, _, rfl, rx, .one ry⟩, e1, fun v H3 A3 f3 ok3 r3 => ⟨z, r3, q _ H3 A3 f3 ok3 rfl⟩⟩
        · cases e2
      · cases e
    · cases e
  · obtain ⟨e5, rfl⟩ := Rs.of_ok e
    cases neg with
    | false =>
      rw [if_neg (by decide)] at e5 ⊢
      exact .inl (od_eq A2 M _ H2 vx vy x y d ok2 rx ry e5 Q fun z H3 ex r3 => q z H3 A2 (.ex ex) (ok2.ex ex) r3)
    | true =>
      rw [if_pos rfl] at e5 ⊢
      exact .inl (od_ne A2 M _ H2 vx vy x y d ok2 rx ry e5 Q fun z H3 ex r3 => q z H3 A2 (.ex ex) (ok2.ex ex) r3)
theorem d_eqA {tab : OTab} (G : ClsOk K ct) (O : OwnOk K "__eq__" tab) (h : EvD K ta ma) (h2 : EvD K tb mb) : EvD K (tOp (rEqA K (ownL K "__eq__" tab)) ta tb) (mEqA ct false tab ma mb) := fun A M μ H σ env d μ' ok en e Q f => by
  obtain ⟨x, μ1, e1, e2⟩ := Rs.bind_ok e
  obtain ⟨y, μ2, e3, e4⟩ := Rs.bind_ok e2
  refine h A M μ H σ env x μ1 ok en e1 _ fun v H1 A1 f1 ok1 r1 => h2 A1 M μ1 H1 σ env y _ ok1 (en.go f1.go) e3 _ fun w H2 A2 f2 ok2 r2 => ?_
  have := eqA_core (neg := false) G O ok2 (RepD.go f2.go r1) r2 e4 (Q := Q) fun v H3 A3 f3 ok3 r3 => f v H3 A3 ((f1.trans f2).trans f3) ok3 r3
  rw [if_neg (by decide)] at this
  exact this
theorem d_neA {tab : OTab} (G : ClsOk K ct) (O : OwnOk K "__eq__" tab) (h : EvD K ta ma) (h2 : EvD K tb mb) : EvD K (tOp (rNeA K (ownL K "__eq__" tab)) ta tb) (mEqA ct true tab ma mb) := fun A M μ H σ env d μ' ok en e Q f => by
  obtain ⟨x, μ1, e1, e2⟩ := Rs.bind_ok e
  obtain ⟨y, μ2, e3, e4⟩ := Rs.bind_ok e2
  refine h A M μ H σ env x μ1 ok en e1 _ fun v H1 A1 f1 ok1 r1 => h2 A1 M μ1 H1 σ env y _ ok1 (en.go f1.go) e3 _ fun w H2 A2 f2 ok2 r2 => ?_
  have := eqA_core (neg := true) G O ok2 (RepD.go f2.go r1) r2 e4 (Q := Q) fun v H3 A3 f3 ok3 r3 => f v H3 A3 ((f1.trans f2).trans f3) ok3 r3
  rw [if_pos rfl] at this
  exact this
def dIsiC (ct : CTab) (μ : Store) : List D → Option D
  | [x, .ty c] => match clsOf μ x with
    | some (c', _, _) => if ct.names.contains c' = true ∧ knownC.contains c = true then some (.bl false) else none
    | none => dIsi μ [x, .ty c]
  | [x, .cls c] => match clsOf μ x with
    | some (c', _, _) => if ct.names.contains c' = true ∧ ct.names.contains c = true then some (.bl (isSub ct c' c)) else none
    | none => match tyN x with
      | some _ => if ct.names.contains c = true then some (.bl false) else none
      | none => none
  | _ => none
theorem ins_ty {a x : Addr} {fs : List (Str × V)} (G : ClsOk K ct) (hc : c ∈ ct.names) (h : H a = some (.ins (He.ga K c) x fs)) : TyX K H (.ref a) (.ref (He.ga K c)) := by
  obtain ⟨h1, h2, _, _⟩ := G.tyo c hc
  exact .base (.ins h (G.cls c hc) h1 G.oc.1 G.oc.2 h2)
theorem cd_isiC (G : ClsOk K ct) : CbD K (rIsi K) (dIsiC ct) := fun A M μ H vs ds d ok r e Q f => by
  unfold dIsiC at e
  split at e
  · rename_i x c
    split at e
    · rename_i c' ns1 ds1 hx
      split at e
      · rename_i hc
        cases e
        obtain ⟨v, r', rfl, h1, w, r2, rfl, h2, rfl⟩ := r
        cases h2
        obtain ⟨a, xa, us, rfl, ha, _, _⟩ := clsOf_rep ok h1 hx
        exact ⟨_, _, _, _, _, rfl, .ty _, ins_ty G (by simpa using hc.1) ha, G.isiB c' (by simpa using hc.1) c (by simpa using hc.2), f _ H (Evl.Ex.refl _) rfl⟩
      · cases e
    · exact cd_isi A M μ H vs _ d ok r e Q f
  · rename_i x c
    obtain ⟨v, r', rfl, h1, w, r2, rfl, h2, rfl⟩ := r
    cases h2
    split at e
    · rename_i c' ns1 ds1 hx
      split at e
      · rename_i hc
        cases e
        obtain ⟨a, xa, us, rfl, ha, _, _⟩ := clsOf_rep ok h1 hx
        exact ⟨_, _, _, _, _, rfl, .own _, ins_ty G (by simpa using hc.1) ha, G.isi c' (by simpa using hc.1) c (by simpa using hc.2), f _ H (Evl.Ex.refl _) rfl⟩
      · cases e
    · split at e
      · rename_i t ht
        split at e
        · rename_i hc
          cases e
          exact ⟨_, _, _, _, _, rfl, .own _, tyN_rep ok h1 ht, G.isiT t (tyN_known ht) c (by simpa using hc), f _ H (Evl.Ex.refl _) rfl⟩
        · cases e
      · cases e
  · cases e
def dLtA (μ : Store) : D → D → Option D
  | .int a, .int b => some (.bl (decide (a < b)))
  | .str a, .str b => some (.bl (decide (a < b)))
  | x, y => match toDataS μ x, toDataS μ y with
    | some a, some b => if PySem.W.alike a b = true ∧ a.depth ≤ 8 ∧ isNon x = false then some (.bl (PySem.W.dataLt a b)) else none
    | _, _ => none
theorem toDataS_non {x : D} {a : PyData} (h : toDataS μ x = some a) (hn : isNon x = false) : a ≠ .none := by
  intro z
  subst z
  cases x with
  | non => cases hn
  | bl b => cases h
  | int i => cases h
  | str l => cases h
  | ty n => cases h
  | tup ds =>
    obtain ⟨_, _, e⟩ := Option.map_eq_some_iff.mp (show (toDataL ds).map PyData.tuple = _ from h)
    cases e
  | lst ds =>
    obtain ⟨_, _, e⟩ := Option.map_eq_some_iff.mp (show (toDataL ds).map PyData.list = _ from h)
    cases e
  | wl ds =>
    obtain ⟨_, _, e⟩ := Option.map_eq_some_iff.mp (show (toDataL ds).map PyData.list = _ from h)
    cases e
  | ref k =>
    unfold toDataS at h
    dsimp only at h
    split at h
    · obtain ⟨_, _, e⟩ := Option.map_eq_some_iff.mp h
      cases e
    · cases h
  | cls c => cases h
  | obj c ns ds => cases h
  | dic t ks ds => cases h
  | err c ns ds => cases h
  | fn f d q σ hs ds => cases h
  | any => cases h
theorem od_ltA : OpD K (rLtA K) dLtA := fun A M μ H x y dx dy d ok rx ry e Q f => by
  unfold dLtA at e
  split at e
  · cases e; cases rx; cases ry
    exact .inl (.inl ⟨_, _, rfl, rfl, f _ H (Evl.Ex.refl _) rfl⟩)
  · cases e; cases rx; cases ry
    exact .inl (.inr ⟨_, _, rfl, rfl, f _ H (Evl.Ex.refl _) rfl⟩)
  · split at e
    · rename_i a b ha hb
      split at e
      · rename_i hc
        cases e
        exact .inr ⟨a, b, toDataS_dp ok rx ha, toDataS_dp ok ry hb, hc.1, toDataS_non ha hc.2.2, Nat.le_trans (Nat.min_le_left _ _) hc.2.1, f _ H (Evl.Ex.refl _) rfl⟩
      · cases e
    · cases e
def dSlV (μ : Store) (x : D) (lo hi : Option Int) : Option D := match x with
  | .tup xs => some (.tup (cutD xs lo hi))
  | x => dSl μ x lo hi
theorem sd_all : SlD K (rSlV K) dSlV := fun A M μ H x dx lo hi d ok rx e Q f => by
  unfold dSlV at e
  split at e
  · rename_i xs
    cases e
    obtain ⟨p, vs, rfl, hs, r⟩ := rx
    refine .inr ⟨p, vs, rfl, hs.sq, fun hw => ?_, fun hw l hl => f _ _ (Evl.Ex.new hl) ⟨l, _, rfl, .of upd_same (ok.fresh hl), RepL.go (Fut.newO hl).go (cut_rep lo hi r)⟩⟩
    have e1 : cutV vs lo hi = vs := by
      unfold cutV
      rw [hw.1, hw.2]
      simp
    have r2 := cut_rep lo hi r
    rw [e1] at r2
    exact f _ H (Evl.Ex.refl _) ⟨p, vs, rfl, hs, r2⟩
  · exact .inl (sd_any A M μ H x dx lo hi d ok rx e Q f)
theorem RepL.rev : ∀ {ds : List D} {vs : List V}, RepL K A M H vs ds → RepL K A M H vs.reverse ds.reverse
  | [], _, h => by rw [show _ = [] from h]; rfl
  | d :: ds, _, ⟨v, r, e, h, t⟩ => by
    subst e
    rw [List.reverse_cons, List.reverse_cons]
    exact (RepL.rev t).app (.one h)
def mRev (m : Mo D) : Mo D := fun env μ => (m env μ).bind fun x μ1 => match x with
  | .tup xs => .ok (.tup xs.reverse) μ1
  | x => match asS μ1 x with
    | some xs => .ok (.lst xs.reverse) μ1
    | none => .no
theorem d_rev (h : EvD K te m) : EvD K (tRev K te) (mRev m) := fun A M μ H σ env d μ' ok en e Q f => by
  obtain ⟨x, μ1, e1, e2⟩ := Rs.bind_ok e
  split at e2
  · cases e2
    refine .inr (h A M μ H σ env _ _ ok en e1 _ fun v H1 A1 f1 ok1 r1 => ?_)
    obtain ⟨p, vs, rfl, hs, r⟩ := r1
    exact ⟨p, vs, rfl, hs.sq, fun l hl => f _ _ A1 (f1.trans (.newO hl)) (ok1.new hl) ⟨l, _, rfl, .of upd_same (ok1.fresh hl), RepL.go (Fut.newO hl).go r.rev⟩⟩
  · split at e2
    · rename_i xs hx
      cases e2
      refine .inl (h A M μ H σ env _ _ ok en e1 _ fun v H1 A1 f1 ok1 r1 => ?_)
      obtain ⟨p, vs, rfl, hs, r⟩ := asS_rep ok1 r1 hx
      exact ⟨p, vs, rfl, hs, fun l hl => f _ _ A1 (f1.trans (.newO hl)) (ok1.new hl) ⟨l, _, rfl, ⟨upd_same, ok1.fresh hl⟩, RepL.go (Fut.newO hl).go r.rev⟩⟩
    · cases e2
theorem zip_carry {A1 A' : List Addr} {M M' : Addr → Prop} {H1 H' : Hp} (hm : ∀ a, M' a → M a ∨ H1 a = none) (fu : Fut A1 H1 A' H') : Go A1 M H1 A' M' H' := ⟨(fu.go (M := M)).ix, fun a z => by
  rcases z with z | z
  · exact (fu.go (M := M)).new a (.inl z)
  · exact (hm a z).imp .inr id, (fu.go (M := M)).pr⟩
end
section
variable {P : Program} {w : World} {K : PySem.W.Frag} {mg : Str → Option Value} {base : Heap}
/-- a def as the head tells it -/
structure DfA (K : PySem.W.Frag) (a : Addr) (x q : Str) (st : Stmt) (dvs : List V) (kvs : List (Str × V)) : Prop where
  ex : ∃ fd, FunD K x q (defArgs st) (defBody st) (defScope st) dvs kvs a fd
theorem calF_of {a : Addr} {x q : Str} {st : Stmt} {dvs : List V} {kvs : List (Str × V)} {N ps : List Str} {k : Nat} {sp : Sp} (F : DfA K a x q st dvs kvs) (S : FnScope N ps (defScope st)) (len : ∀ vs H Q E, sp vs H Q E → vs.length = ps.length)
    (hbody : ∀ (cdv : Value) (A : Around) (outer : List Env) (s : Shared) (H : Hp) (vs : List V) (Q : VK) (E : XK), Room k (A.deeper (envOfC q (defScope st) s.heap.objs.size a cdv)) → sp vs H Q E →
      ∃ t, PSs (cxOf CX0 P w K mg base N q (defScope st) a cdv A outer s H E).nox (defBody st) t ∧ t { nx := fun _ H' => Q .non H', rt := Q } (start N vs) H) : CalF P w K mg base CX0 (k + 1) a x q st dvs kvs ps sp := by
  obtain ⟨fd, F⟩ := F.ex
  refine ⟨fd, F.ok S len fun cdv A outer s H vs Q E hr h => ?_, F⟩
  obtain ⟨t, h1, h2⟩ := hbody cdv A outer s H vs Q E hr h
  exact ⟨t, PSs.nox h1, h2⟩
theorem calF_K {a : Addr} {x q : Str} {st : Stmt} {dvs : List V} {kvs : List (Str × V)} {N ps : List Str} {k nl : Nat} {body : MS} (F : DfA K a x q st dvs kvs) (S : FnScope N ps (defScope st)) (hN : N.length = ps.length + nl)
    (hb : ∀ (cdv : Value) (A : Around) (outer : List Env) (s : Shared) (H : Hp) (E : XK), Room k (A.deeper (envOfC q (defScope st) s.heap.objs.size a cdv)) →
      ∃ t, PSs (cxOf CX0 P w K mg base N q (defScope st) a cdv A outer s H E).nox (defBody st) t ∧ StD K none t body) : CalF P w K mg base CX0 (k + 1) a x q st dvs kvs ps (modSp K (fnK ps.length nl body)) := by
  refine calF_of F S (fun vs H Q E h => ?_) (fun cdv A outer s H vs Q E hr h => ?_)
  · obtain ⟨A, M, μ, ds, d, μ', ok, r, e, q⟩ := h
    unfold fnK at e
    split at e
    · rename_i hl
      rw [r.len, hl]
    · cases e
  · obtain ⟨A0, M, μ, ds, d, μ', ok, r, e, q⟩ := h
    obtain ⟨t, h1, h2⟩ := hb cdv A outer s H E hr
    refine ⟨t, h1, ?_⟩
    unfold fnK at e
    split at e
    · rename_i hl
      refine h2 A0 M μ H _ _ _ ok (env_start r (by rw [hl]; exact hN)) ?_
      split at e
      · rename_i en2 μ2 eb
        cases e
        rw [eb]
        exact fun σ' H' A' f' ok' _ => q .non H' A' f' ok' rfl
      · rename_i d2 μ2 eb
        cases e
        rw [eb]
        exact fun v H' A' f' ok' r' => q v H' A' f' ok' r'
      · cases e
    · cases e
end
end My
namespace My
open PySem PySem.Spec PyProof.Rows L2
end My
namespace My
open PySem PySem.Spec PyProof.Rows L2
structure CM (K : PySem.W.Frag) (c m : Str) : Prop where
  rd : ClX.CRead K (He.ga K c) (.type "type")
  mt : ClX.CMet K (He.ga K c) (.type "type") m (He.ma K (He.ga K c) m) (gc K c m)
theorem cmB_ok {K : PySem.W.Frag} {c m : Str} (h : cmB K c m = true) : CM K c m := by
  obtain ⟨h1, h⟩ := He.ba h
  obtain ⟨h2, h3⟩ := He.ba h
  refine ⟨⟨h1, ?_⟩, He5.cmet_of h2 h3⟩
  unfold PySem.W.readsIn at h1
  obtain ⟨h, _⟩ := He.ba h1
  obtain ⟨h, _⟩ := He.ba h
  obtain ⟨h, h3⟩ := He.ba h
  obtain ⟨_, h2⟩ := He.ba h
  unfold PySem.W.specialIn
  rw [beq_iff_eq.mp h2, Option.bind_some]
  exact beq_iff_eq.mp h3
end My
namespace My
open PySem PySem.Spec PyProof.Rows L2
theorem Rs.nr_ok {α : Type} {r : Rs α} {a : α} {μ : Store} (h : r.nr = .ok a μ) : r = .ok a μ := by cases r <;> cases h <;> rfl
theorem Rs.nr_rz {α : Type} {r : Rs α} {c : String} {ns : List String} {xs : List D} {μ : Store} (h : r.nr = .rz c ns xs μ) : False := by cases r <;> cases h
theorem Rs.bind_rz {α β : Type} {r : Rs α} {f : α → Store → Rs β} {c : String} {ns : List String} {xs : List D} {μ : Store} (h : r.bind f = .rz c ns xs μ) : r = .rz c ns xs μ ∨ ∃ a μ1, r = .ok a μ1 ∧ f a μ1 = .rz c ns xs μ := by
  cases r with
  | ok a μ1 => exact .inr ⟨a, μ1, rfl, h⟩
  | no => cases h
  | rz => cases h; exact .inl rfl
theorem Rs.nr_bind_rz {α β : Type} {r : Rs α} {f : α → Store → Rs β} {c : String} {ns : List String} {xs : List D} {μ : Store} (h : r.nr.bind f = .rz c ns xs μ) : ∃ a μ1, r = .ok a μ1 ∧ f a μ1 = .rz c ns xs μ := by
  rcases Rs.bind_rz h with h | ⟨a, μ1, e, h⟩
  · exact (Rs.nr_rz h).elim
  · exact ⟨a, μ1, Rs.nr_ok e, h⟩
/-- a reading that may raise -/
def EvZ (K : PySem.W.Frag) (W : WX) (te : TE) (m : Mo D) : Prop := ∀ (A : List Addr) (M : Addr → Prop) (μ : Store) (H : Hp) (σ : L2.St) (env : En) (c : String) (ns : List String) (xs : List D) (μ' : Store), Ok K A M μ H → EnvRep K A M H σ env → m env μ = .rz c ns xs μ' →
  (∀ H' A' cls od, Fut A H A' H' → Ok K A' M μ' H' → RepX K A' M H' c ns xs cls od → W cls od σ H') → ∀ Q : VK, te σ H Q
structure EvX (K : PySem.W.Frag) (W : WX) (te : TE) (m : Mo D) : Prop where
  ok : EvD K te m
  rz : EvZ K W te m
theorem passX0 {X : Cx} : ∀ σ : L2.St, PassesAt (L2.CX X.prog X.w) X σ E0 := fun _ _ _ _ _ _ _ h => by
  obtain ⟨_, _, _, _, _, _, _, _, _, _, _, _, hE⟩ := h
  exact hE.elim
section
variable {K : PySem.W.Frag} {A A' : List Addr} {M : Addr → Prop} {μ μ' : Store} {H H' : Hp} {v w : V} {d : D} {xs ds : List D} {k : Nat} {te ta tb : TE} {m ma mb : Mo D} {tas tks : TA} {mas mks : Mo (List D)} {W : WX} {Wo : Option WX} {c : String} {ct : CTab} {t1 : TS} {s1 : MS}
theorem RepX.low {B : List Addr} {c : String} {ns : List String} {xs : List D} {cls : Value} {od : Option Addr} (q : undL A.length xs = true) (h : RepX K (A ++ B) M H c ns xs cls od) : RepX K A M H c ns xs cls od := by
  obtain ⟨e, vs, h1, h2, h3, h4⟩ := h
  exact ⟨e, vs, fun q z => ⟨(h1 q z).1, fun y => (h1 q z).2 (y.imp (fun z => List.mem_append_left _ z) id)⟩, h2, h3, RepL.low q h4⟩
def sRetX (m : Mo D) : MS := fun env μ => match m env μ with
  | .ok d μ' => .rt d μ'
  | .rz c ns xs μ' => .rz c ns xs env μ'
  | .no => .no
theorem x_raise {W : WX} {A : List Addr} {M : Addr → Prop} {μ μ' : Store} {H : Hp} {σ : L2.St} {env : En} {c : String} {ns : List String} {xs : List D} (h : EvZ K W te m) (ok : Ok K A M μ H) (en : EnvRep K A M H σ env) (e : m env μ = .rz c ns xs μ') (p : PostR K (some W) A M H c ns xs env μ') (Q : VK) : te σ H Q :=
  h A M μ H σ env c ns xs μ' ok en e (fun H' A' cls od f' ok' rx => p σ H' A' cls od f' ok' (en.go f'.go) rx) Q
theorem t_retX (h : EvX K W te m) : StD K (some W) (tRet te) (sRetX m) := fun A M μ H σ env E ok en p => by
  unfold sRetX at p
  cases e : m env μ with
  | ok d μ' => rw [e] at p; exact h.ok A M μ H σ env d μ' ok en e _ p
  | no => rw [e] at p; exact p.elim
  | rz c ns xs μ' => rw [e] at p; exact x_raise h.rz ok en e p _
def sDropX (m : Mo D) : MS := fun env μ => match m env μ with
  | .ok _ μ' => .nx env μ'
  | .rz c ns xs μ' => .rz c ns xs env μ'
  | .no => .no
theorem t_dropX (h : EvX K W te m) : StD K (some W) (tDrop te) (sDropX m) := fun A M μ H σ env E ok en p => by
  unfold sDropX at p
  cases e : m env μ with
  | ok d μ' => rw [e] at p; exact h.ok A M μ H σ env d μ' ok en e _ fun v H1 A1 f1 ok1 _ => p σ H1 A1 f1 ok1 (en.go f1.go)
  | no => rw [e] at p; exact p.elim
  | rz c ns xs μ' => rw [e] at p; exact x_raise h.rz ok en e p _
def sAsgX (m : Mo D) (t : Tg) : MS := fun env μ => match m env μ with
  | .ok d μ' => (match t d env with
    | some env' => .nx env' μ'
    | none => .no)
  | .rz c ns xs μ' => .rz c ns xs env μ'
  | .no => .no
theorem t_asgX {g : TG} {js : List Nat} {t : Tg} (h : EvX K W te m) (hg : GD K g js t) : StD K (some W) (tAsg te g) (sAsgX m t) := fun A M μ H σ env E ok en p => by
  unfold sAsgX at p
  cases e : m env μ with
  | ok d μ' =>
    rw [e] at p
    dsimp only at p
    refine h.ok A M μ H σ env d μ' ok en e _ fun v H1 A1 f1 ok1 r1 => ?_
    cases e2 : t d env with
    | some env' =>
      rw [e2] at p
      obtain ⟨σ', en', _, q⟩ := hg A1 M H1 v d σ env env' (en.go f1.go) r1 e2
      exact q _ (p σ' H1 A1 f1 ok1 en')
    | none => rw [e2] at p; exact p.elim
  | no => rw [e] at p; exact p.elim
  | rz c ns xs μ' => rw [e] at p; exact x_raise h.rz ok en e p _
/-- raise C(..) -/
def sRaise (c : String) (fs : List String) (m : Mo (List D)) : MS := fun env μ => match m env μ with
  | .ok ds μ' => if ds.length = fs.length then .rz c fs ds env μ' else .no
  | _ => .no
theorem t_raise {fs : List String} (h : EvS K tas mas) : StD K (some W) (fun _ σ H => tMkErr (He.ga K c) (nmS fs) tas σ H fun cls d H' => W cls d σ H') (sRaise c fs mas) := fun A M μ H σ env E ok en p => by
  unfold sRaise at p
  cases e : mas env μ with
  | ok ds μ' =>
    rw [e] at p
    dsimp only at p
    split at p
    · rename_i hl
      refine h A M μ H σ env ds μ' ok en e _ fun vs H1 A1 f1 ok1 r1 => ?_
      have hlv : vs.length = fs.length := r1.len.trans hl
      refine ⟨hlv.trans (by unfold nmS; rw [List.length_map]), fun hfs => ?_, fun hfs d hd => ?_⟩
      · have h0 : fs = [] := by cases fs with | nil => rfl | cons => cases hfs
        exact p σ H1 A1 _ none f1 ok1 (en.go f1.go) ⟨rfl, vs, fun q z => (nomatch z), fun _ => h0, hlv.symm, r1⟩
      · have fd : Fut A1 H1 A1 (upd H1 d (.xd ((nmS fs).zip vs))) := .newO hd
        exact p σ _ A1 _ (some d) (f1.trans fd) (ok1.new hd) (en.go (f1.trans fd).go) ⟨rfl, vs, fun q z => by cases z; exact ⟨upd_same, ok1.fresh hd⟩, fun z => (nomatch z), hlv.symm, RepL.go fd.go r1⟩
    · exact p.elim
  | no => rw [e] at p; exact p.elim
  | rz => rw [e] at p; exact p.elim
def subE (ec : List (String × List String)) (c' c : String) : Bool := match ec.lookup c' with
  | some l => l.contains c
  | none => false
/-- try: .. except c as n: .. -/
def sTryAs (ec : List (String × List String)) (c : String) (i : Nat) (body suite : MS) : MS := fun env μ => match body env μ with
  | .rz c' ns xs env1 μ1 => if subE ec c' c = true then (match suite (env1.set i (some (.err c' ns xs))) μ1 with
    | .nx e m => .nx (e.set i none) m
    | .rt d m => .rt d m
    | .bk e m => .bk (e.set i none) m
    | .ct e m => .ct (e.set i none) m
    | _ => .no) else .no
  | r => r
/-- the classes of errors, as plain data -/
structure EcOk (K : PySem.W.Frag) (ec : List (String × List String)) : Prop where
  sub : ∀ p ∈ ec, ∀ c ∈ p.2, PySem.W.exmOne K (.ref (He.ga K p.1)) (.ref (He.ga K c)) = some true
theorem lookup_mem' {α : Type} {l : List (String × α)} {x : String} {y : α} (h : l.lookup x = some y) : (x, y) ∈ l := by
  induction l with
  | nil => cases h
  | cons p l ih =>
    obtain ⟨a, b⟩ := p
    rw [List.lookup_cons] at h
    by_cases z : x = a
    · subst z
      rw [beq_self_eq_true] at h
      cases h
      exact List.mem_cons_self
    · rw [show (x == a) = false from beq_eq_false_iff_ne.mpr z] at h
      exact List.mem_cons_of_mem _ (ih h)
theorem EnvRep.unset {A : List Addr} {M : Addr → Prop} {H : Hp} {σ : L2.St} {env : En} (h : EnvRep K A M H σ env) (i : Nat) : EnvRep K A M H (σ.set i none) (env.set i none) := paired_set (F := RepO K A M H) (x := none) (y := none) trivial i h
theorem t_tryAs {ec : List (String × List String)} {i : Nat} {tb : WX → TS} {ts : TS} {body suite : MS} (G : EcOk K ec) (hb : ∀ W', StD K (some W') (tb W') body) (hs : StD K none ts suite) : StD K Wo (fun D σ H => tb (wAsK K (.ref (He.ga K c)) i ts D) D σ H) (sTryAs ec c i body suite) := fun A M μ H σ env E ok en p => by
  refine hb _ A M μ H σ env E ok en ?_
  unfold sTryAs at p
  cases e : body env μ with
  | nx e1 m => rw [e] at p; exact p
  | rt d m => rw [e] at p; exact p
  | bk e1 m => rw [e] at p; exact p
  | ct e1 m => rw [e] at p; exact p
  | no => rw [e] at p; exact p
  | rz c' ns xs env1 μ1 =>
    rw [e] at p
    dsimp only at p
    intro σ1 H1 A1 cls od f1 ok1 en1 rx
    split at p
    · rename_i hc
      obtain ⟨rfl, vs, r1, r2, r3, r4⟩ := rx
      unfold subE at hc
      split at hc
      · rename_i l hl
        refine ⟨G.sub (c', l) (lookup_mem' hl) c (by simpa using hc), fun a ha => ?_⟩
        have fa : Fut A1 H1 A1 (upd H1 a (ErO a (.ref (He.ga K c')) od)) := .newO ha
        have ra : RepD K A1 M (upd H1 a (ErO a (.ref (He.ga K c')) od)) (.ref a) (.err c' ns xs) := by
          refine ⟨a, od, vs, rfl, ⟨upd_same, ok1.fresh ha⟩, fun q z => ⟨?_, (r1 q z).2⟩, r2, r3, RepL.go fa.go r4⟩
          have ne : q ≠ a := fun y => by
            have := (r1 q z).1
            rw [y, ha] at this
            cases this
          rw [upd_ne ne]
          exact (r1 q z).1
        refine hs A1 M μ1 _ _ _ _ (ok1.new ha) ((en1.go fa.go).set i ra) ?_
        cases e2 : suite (env1.set i (some (.err c' ns xs))) μ1 with
        | nx e3 m => rw [e2] at p; exact fun σ5 H5 A5 f5 ok5 en5 => p _ H5 A5 (f1.trans (fa.trans f5)) ok5 (en5.unset i)
        | rt d m => rw [e2] at p; exact fun v H5 A5 f5 ok5 r5 => p v H5 A5 (f1.trans (fa.trans f5)) ok5 r5
        | bk e3 m => rw [e2] at p; exact fun σ5 H5 A5 f5 ok5 en5 => p _ H5 A5 (f1.trans (fa.trans f5)) ok5 (en5.unset i)
        | ct e3 m => rw [e2] at p; exact fun σ5 H5 A5 f5 ok5 en5 => p _ H5 A5 (f1.trans (fa.trans f5)) ok5 (en5.unset i)
        | no => rw [e2] at p; exact p.elim
        | rz => rw [e2] at p; exact p.elim
      · cases hc
    · exact p.elim
structure ErrOk (K : PySem.W.Frag) (ec : List (String × List String)) (fs : List String) : Prop where
  cls : ∀ p ∈ ec, XcC K (He.ga K p.1)
  no : ∀ p ∈ ec, ∀ f ∈ fs, PySem.W.findIn K (.ref (He.ga K p.1)) (f : Str) = some none
def mXfld (ec : List (String × List String)) (fs : List String) (f : String) (o : Mo D) : Mo D := fun env μ => (o env μ).bind fun x μ1 => match x with
  | .err c ns ds => if (ec.lookup c).isSome = true ∧ fs.contains f = true then Rs.of (getF f ns ds) μ1 else .no
  | _ => .no
theorem d_xfld {ec : List (String × List String)} {fs : List String} {f : String} (G : ErrOk K ec fs) (h : EvD K ta ma) : EvD K (tXfld K ta (f : Str)) (mXfld ec fs f ma) := fun A M μ H σ env d μ' ok en e Q q => by
  obtain ⟨x, μ1, e1, e2⟩ := Rs.bind_ok e
  split at e2
  · rename_i c ns ds
    split at e2
    · rename_i hn
      obtain ⟨e3, rfl⟩ := Rs.of_ok e2
      refine h A M μ H σ env _ _ ok en e1 _ fun v H1 A1 f1 ok1 r1 => ?_
      obtain ⟨a, od, vs, rfl, h1, hq, l0, hl, r2⟩ := r1
      obtain ⟨u, h3, h4⟩ := getF_rep r2 e3
      obtain ⟨l, hc⟩ := Option.isSome_iff_exists.mp hn.1
      have hm := lookup_mem' hc
      cases od with
      | none =>
        rw [l0 rfl] at h3
        cases h3
      | some dd => exact ⟨a, _, dd, _, u, rfl, h1.1, G.cls _ hm, G.no _ hm f (by simpa using hn.2), (hq dd rfl).1, h3, q u H1 A1 f1 ok1 h4⟩
    · cases e2
  · cases e2
/-- C(..) -/
def mMakeX (live : Bool) (c : String) (init : List D → Store → Rs D) (n mm : Nat) (js : List Nat) (dd : List D) (fm : Mo D) (a k : Mo (List D)) : Mo D := fun env μ => (fm env μ).nr.bind fun x μ0 => match x with
  | .cls c' => if c' = c then (a env μ0).nr.bind fun ds μ1 => (k env μ1).nr.bind fun es μ2 => if ds.length = n ∧ es.length = mm then (match init (perm js ((.ref μ2.length :: ds) ++ dd ++ es)) (μ2 ++ [.obj c [] []]) with
    | .ok .non μ3 => if live = true then .ok (.ref μ2.length) μ3 else (match μ3[μ2.length]? with
      | some cell => .ok (frzC cell) (μ3.take μ2.length)
      | none => .no)
    | .rz e ns xs μ3 => if undL μ2.length xs = true then .rz e ns xs (μ3.take μ2.length) else .no
    | _ => .no) else .no else .no
  | _ => .no
theorem mMakeX_ok {live : Bool} {init : List D → Store → Rs D} {n mm : Nat} {js : List Nat} {dd : List D} {mf : Mo D} {env : En} (e : mMakeX live c init n mm js dd mf mas mks env μ = .ok d μ') : mMakeP live c init n mm js dd mf mas mks env μ = .ok d μ' := by
  obtain ⟨x, μ0, e1, e⟩ := Rs.bind_ok e
  unfold mMakeP
  rw [Rs.nr_ok e1]
  rw [Rs.bind_k]
  split at e
  · rename_i c'
    try dsimp only
    split at e
    · rename_i hc
      rw [if_pos hc]
      obtain ⟨ds, μ1, e2, e⟩ := Rs.bind_ok e
      obtain ⟨es, μ2, e3, e⟩ := Rs.bind_ok e
      rw [Rs.nr_ok e2, Rs.bind_k, Rs.nr_ok e3, Rs.bind_k]
      split at e
      · rename_i hn
        rw [if_pos hn]
        split at e
        · rename_i μ3 ei
          rw [ei]
          exact e
        · split at e <;> cases e
        · cases e
      · cases e
    · cases e
  · cases e
theorem d_makeX {live : Bool} {init : List D → Store → Rs D} {n mm : Nat} {js : List Nat} {dd : List D} {dvs : List V} {tf : TE} {mf : Mo D} {E : L2.St → XK} (hd : ∀ A M H, RepL K A M H dvs dd) (h0 : EvD K tf mf) (h : EvS K tas mas) (hk : EvS K tks mks) :
    EvD K (tMakeP (He.ga K c) n mm (modSpX K init) js dvs E tf tas tks) (mMakeX live c init n mm js dd mf mas mks) := fun A M μ H σ env d μ' ok en e Q q =>
  d_makePs (fun _ _ _ _ h => .inl h) hd h0 h hk A M μ H σ env d μ' ok en (mMakeX_ok e) Q q
theorem z_makeX {live : Bool} {init : List D → Store → Rs D} {n mm : Nat} {js : List Nat} {dd : List D} {dvs : List V} {tf : TE} {mf : Mo D} (hd : ∀ A M H, RepL K A M H dvs dd) (h0 : EvD K tf mf) (h : EvS K tas mas) (hk : EvS K tks mks) :
    EvZ K W (tMakeP (He.ga K c) n mm (modSpX K init) js dvs (WE W) tf tas tks) (mMakeX live c init n mm js dd mf mas mks) := fun A M μ H σ env c2 ns xs μ' ok en e q Q => by
  obtain ⟨x, μ0, e1, e⟩ := Rs.nr_bind_rz e
  split at e
  · rename_i c'
    split at e
    · rename_i hc
      subst hc
      obtain ⟨ds, μ1, e2, e⟩ := Rs.nr_bind_rz e
      obtain ⟨es, μ2, e3, e⟩ := Rs.nr_bind_rz e
      split at e
      · rename_i hn
        refine h0 A M μ H σ env _ μ0 ok en e1 _ fun v H0 A0 f0 ok0 r0 => ⟨r0, ?_⟩
        refine h A0 M μ0 H0 σ env ds μ1 ok0 (en.go f0.go) e2 _ fun vs H1 A1 f1 ok1 r1 => hk A1 M μ1 H1 σ env es μ2 ok1 (en.go (f0.trans f1).go) e3 _ fun zs H2 A2 f2 ok2 r2 => ⟨by rw [r1.len]; exact hn.1, by rw [r2.len]; exact hn.2, fun y dy hy hdy hne => .inr ?_⟩
        have ok3 := ok2.new (o := .own y) hdy
        have fd : Fut A2 H2 A2 (upd H2 dy (.own y)) := .newO hdy
        have hy2 : upd H2 dy (.own y) y = none := by rw [upd_ne (fun z => hne z.symm)]; exact hy
        obtain ⟨ok4, f4⟩ := ok3.cellNew (x := dy) (vs := []) (c := .obj c' [] []) hy2 rfl rfl rfl
        have f24 := fd.trans f4
        have hlen : A2.length = μ2.length := ok2.len
        have rx : RepL K (A2 ++ [y]) M (upd (upd H2 dy (.own y)) y (.ins (He.ga K c') dy [])) (V.ref y :: vs) (.ref μ2.length :: ds) := ⟨_, _, rfl, ⟨y, rfl, by rw [← hlen]; simp⟩, RepL.go (f2.trans f24).go r1⟩
        split at e
        · split at e
          · cases e
          · split at e <;> cases e
        · rename_i e5 ns5 xs5 μ3 ei
          split at e
          · rename_i hu
            cases e
            refine ⟨A2 ++ [y], M, μ2 ++ [.obj c' [] []], _, _, _, _, _, ok4, ((rx.app (hd _ _ _)).app (RepL.go f24.go r2)).perm js, ei, fun H5 A5 cls od f5 ok5 rx5 => ?_⟩
            obtain ⟨B, rfl⟩ := f5.pre
            have fAll := ((f0.trans f1).trans f2).trans (f24.trans f5)
            have ok6 : Ok K (A2 ++ ([y] ++ B)) M μ3 H5 := by rw [← List.append_assoc]; exact ok5
            have rx6 : RepX K (A2 ++ ([y] ++ B)) M H5 c2 ns xs cls od := by rw [← List.append_assoc]; exact rx5
            have f02 := (f0.trans f1).trans f2
            exact q H5 A2 cls od ⟨f02.pre, f02.new, fun a o ha ho => fAll.pr a o ha ho⟩ (by rw [← hlen]; exact ok6.cellDrop) (RepX.low (by rw [hlen]; exact hu) rx6)
          · cases e
        · cases e
      · cases e
    · cases e
  · cases e
theorem x_makeX {live : Bool} {init : List D → Store → Rs D} {n mm : Nat} {js : List Nat} {dd : List D} {dvs : List V} {tf : TE} {mf : Mo D} (hd : ∀ A M H, RepL K A M H dvs dd) (h0 : EvD K tf mf) (h : EvS K tas mas) (hk : EvS K tks mks) :
    EvX K W (tMakeP (He.ga K c) n mm (modSpX K init) js dvs (WE W) tf tas tks) (mMakeX live c init n mm js dd mf mas mks) := ⟨d_makeX hd h0 h hk, z_makeX hd h0 h hk⟩
end
end My
namespace My
open PySem PySem.Spec PyProof.Rows L2
section
variable {K : PySem.W.Frag} {A A' : List Addr} {M : Addr → Prop} {μ μ' : Store} {H H' : Hp} {v w : V} {d : D} {xs ds : List D} {k : Nat} {te ta tb : TE} {m ma mb : Mo D} {tas tks : TA} {mas mks : Mo (List D)} {W : WX} {Wo : Option WX} {c : String} {ct : CTab} {t1 : TS} {s1 : MS}
def mMethX (ct : CTab) (cs : List String) (nm : String) (n mm : Nat) (f : List D → Store → Rs D) (js : List Nat) (dd : List D) (o : Mo D) (a k : Mo (List D)) : Mo D := fun env μ => (o env μ).nr.bind fun x μ0 => match clsOf μ0 x with
  | some (c, ns, _) => if cs.contains c = true ∧ ct.names.contains c = true ∧ ns.contains nm = false then (a env μ0).nr.bind fun ds μ1 => (k env μ1).nr.bind fun es μ2 => if ds.length = n ∧ es.length = mm then f (perm js ((x :: ds) ++ dd ++ es)) μ2 else .no else .no
  | none => .no
theorem mMethX_ok {cs : List String} {nm : String} {n mm : Nat} {f : List D → Store → Rs D} {js : List Nat} {dd : List D} {env : En} (e : mMethX ct cs nm n mm f js dd ma mas mks env μ = .ok d μ') : mMethP ct cs nm n mm f js dd ma mas mks env μ = .ok d μ' := by
  obtain ⟨x, μ0, e1, e⟩ := Rs.bind_ok e
  unfold mMethP
  rw [Rs.nr_ok e1, Rs.bind_k]
  split at e
  · rename_i c ns _ hc
    try rw [hc]
    try dsimp only
    split at e
    · rename_i hcs
      rw [if_pos hcs]
      obtain ⟨ds, μ1, e2, e⟩ := Rs.bind_ok e
      obtain ⟨es, μ2, e3, e⟩ := Rs.bind_ok e
      rw [Rs.nr_ok e2, Rs.bind_k, Rs.nr_ok e3, Rs.bind_k]
      exact e
    · cases e
  · cases e
theorem x_methX {cs : List String} {nm : String} {a : Addr} {n mm : Nat} {f : List D → Store → Rs D} {js : List Nat} {dd : List D} {dvs : List V} (G : ClsOk K ct) (hm : ∀ c ∈ cs, Meth K (He.ga K c) (nm : Str) a) (hd : ∀ A M H, RepL K A M H dvs dd)
    (h0 : EvD K ta ma) (h : EvS K tas mas) (hk : EvS K tks mks) : EvX K W (tMethP K (nm : Str) a n mm (modSpX K f) js dvs (WE W) ta tas tks) (mMethX ct cs nm n mm f js dd ma mas mks) := by
  refine ⟨fun A M μ H σ env d μ' ok en e Q q => d_methPs (fun _ _ _ _ h => .inl h) G hm hd h0 h hk A M μ H σ env d μ' ok en (mMethX_ok e) Q q, fun A M μ H σ env c2 ns2 xs2 μ' ok en e q Q => ?_⟩
  obtain ⟨x, μ0, e0, e⟩ := Rs.nr_bind_rz e
  split at e
  · rename_i c ns _ hc
    split at e
    · rename_i hcs
      obtain ⟨ds, μ1, e1, e⟩ := Rs.nr_bind_rz e
      obtain ⟨es, μ2, e3, e⟩ := Rs.nr_bind_rz e
      split at e
      · rename_i hn
        refine h0 A M μ H σ env x μ0 ok en e0 _ fun v H0 A0 f0 ok0 r0 => ?_
        obtain ⟨b, y, us, rfl, hb, hl, _⟩ := clsOf_rep ok0 r0 hc
        refine ⟨b, _, y, _, rfl, hb, G.cls c (by simpa using hcs.2.1), hm c (by simpa using hcs.1), noF_rep hcs.2.2, ?_⟩
        refine h A0 M μ0 H0 σ env ds μ1 ok0 (en.go f0.go) e1 _ fun vs H1 A1 f1 ok1 r1 => hk A1 M μ1 H1 σ env es μ2 ok1 (en.go (f0.trans f1).go) e3 _ fun zs H2 A2 f2 ok2 r2 => ⟨by rw [r1.len]; exact hn.1, by rw [r2.len]; exact hn.2, .inr ?_⟩
        have rx : RepL K A2 M H2 (V.ref b :: vs) (x :: ds) := ⟨_, _, rfl, RepD.go (f1.trans f2).go r0, RepL.go f2.go r1⟩
        exact ⟨A2, M, μ2, _, c2, ns2, xs2, μ', ok2, ((rx.app (hd _ _ _)).app r2).perm js, e, fun H3 A3 cls od f3 ok3 rx3 => q H3 A3 cls od (((f0.trans f1).trans f2).trans f3) ok3 rx3⟩
      · cases e
    · cases e
  · cases e
/-- .. where nothing raises -/
theorem d_methX {cs : List String} {nm : String} {a : Addr} {n mm : Nat} {f : List D → Store → Rs D} {js : List Nat} {dd : List D} {dvs : List V} {E : L2.St → XK} (G : ClsOk K ct) (hm : ∀ c ∈ cs, Meth K (He.ga K c) (nm : Str) a) (hd : ∀ A M H, RepL K A M H dvs dd)
    (h0 : EvD K ta ma) (h : EvS K tas mas) (hk : EvS K tks mks) : EvD K (tMethP K (nm : Str) a n mm (modSpX K f) js dvs E ta tas tks) (mMethP ct cs nm n mm f js dd ma mas mks) := d_methPs (fun _ _ _ _ h => .inl h) G hm hd h0 h hk
theorem d_makeY {live : Bool} {init : List D → Store → Rs D} {n mm : Nat} {js : List Nat} {dd : List D} {dvs : List V} {tf : TE} {mf : Mo D} {E : L2.St → XK} (hd : ∀ A M H, RepL K A M H dvs dd) (h0 : EvD K tf mf) (h : EvS K tas mas) (hk : EvS K tks mks) :
    EvD K (tMakeP (He.ga K c) n mm (modSpX K init) js dvs E tf tas tks) (mMakeP live c init n mm js dd mf mas mks) := d_makePs (fun _ _ _ _ h => .inl h) hd h0 h hk
def tCallX (sp : Sp) (E : L2.St → XK) (t : TA) : TE := fun σ H Q => t σ H fun vs H1 => sp vs H1 Q (E σ)
def mCallX (m : List D → Store → Rs D) (ma : Mo (List D)) : Mo D := fun env μ => (ma env μ).nr.bind fun ds μ1 => m ds μ1
theorem x_callX {f : List D → Store → Rs D} (h : EvS K tas mas) : EvX K W (tCallX (modSpX K f) (WE W) tas) (mCallX f mas) := by
  refine ⟨fun A M μ H σ env d μ' ok en e Q q => ?_, fun A M μ H σ env c2 ns2 xs2 μ' ok en e q Q => ?_⟩
  · obtain ⟨ds, μ1, e1, e⟩ := Rs.bind_ok e
    exact h A M μ H σ env ds μ1 ok en (Rs.nr_ok e1) _ fun vs H1 A1 f1 ok1 r1 => .inl ⟨A1, M, μ1, ds, d, μ', ok1, r1, e, fun v H2 A2 f2 ok2 r2 => q v H2 A2 (f1.trans f2) ok2 r2⟩
  · obtain ⟨ds, μ1, e1, e⟩ := Rs.nr_bind_rz e
    exact h A M μ H σ env ds μ1 ok en e1 _ fun vs H1 A1 f1 ok1 r1 => .inr ⟨A1, M, μ1, ds, c2, ns2, xs2, μ', ok1, r1, e, fun H2 A2 cls od f2 ok2 r2 => q H2 A2 cls od (f1.trans f2) ok2 r2⟩
theorem d_callX {f : List D → Store → Rs D} {E : L2.St → XK} (h : EvS K tas mas) : EvD K (tCallX (modSpX K f) E tas) (mCall f mas) := fun A M μ H σ env d μ' ok en e Q q => by
  obtain ⟨ds, μ1, e1, e⟩ := Rs.bind_ok e
  exact h A M μ H σ env ds μ1 ok en e1 _ fun vs H1 A1 f1 ok1 r1 => .inl ⟨A1, M, μ1, ds, d, μ', ok1, r1, e, fun v H2 A2 f2 ok2 r2 => q v H2 A2 (f1.trans f2) ok2 r2⟩
end
def fnKX (np nl : Nat) (body : MS) : List D → Store → Rs D := fun ds μ => if ds.length = np then (match body (ds.map some ++ List.replicate nl none) μ with
  | .nx _ μ' => .ok .non μ'
  | .rt d μ' => .ok d μ'
  | .rz c ns xs _ μ' => .rz c ns xs μ'
  | _ => .no) else .no
section
variable {P : Program} {w : World} {K : PySem.W.Frag} {mg : Str → Option Value} {base : Heap}
theorem fnKX_len {np nl : Nat} {body : MS} : ∀ ds μ, ds.length ≠ np → fnKX np nl body ds μ = .no := fun ds μ h => if_neg h
theorem run_KX {np nl : Nat} {N : List Str} {body : MS} {t : TS} {E : XK} {vs : List V} {H : Hp} {Q : VK} (hN : N.length = np + nl) (h : modSpX K (fnKX np nl body) vs H Q E) (hb : StD K (some fun cls d _ H => E cls d H) t body) : t { nx := fun _ H' => Q .non H', rt := Q } (start N vs) H := by
  rcases h with ⟨A0, M, μ, ds, d, μ', ok, r, e, q⟩ | ⟨A0, M, μ, ds, c, ns, xs, μ', ok, r, e, q⟩
  · unfold fnKX at e
    split at e
    · rename_i hl
      refine hb A0 M μ H _ _ _ ok (env_start r (by rw [hl]; exact hN)) ?_
      split at e
      · rename_i en2 μ2 eb
        cases e
        rw [eb]
        exact fun σ' H' A' f' ok' _ => q .non H' A' f' ok' rfl
      · rename_i d2 μ2 eb
        cases e
        rw [eb]
        exact fun v H' A' f' ok' r' => q v H' A' f' ok' r'
      · cases e
      · cases e
    · cases e
  · unfold fnKX at e
    split at e
    · rename_i hl
      refine hb A0 M μ H _ _ _ ok (env_start r (by rw [hl]; exact hN)) ?_
      split at e
      · cases e
      · cases e
      · rename_i c2 ns2 xs2 en2 μ2 eb
        cases e
        rw [eb]
        exact fun σ' H' A' cls od f' ok' _ rx => q H' A' cls od f' ok' rx
      · cases e
    · cases e
theorem calF_KX {a : Addr} {x q : Str} {st : Stmt} {dvs : List V} {kvs : List (Str × V)} {N ps : List Str} {k nl : Nat} {body : MS} (F : DfA K a x q st dvs kvs) (S : FnScope N ps (defScope st)) (hN : N.length = ps.length + nl)
    (hb : ∀ (cdv : Value) (A : Around) (outer : List Env) (s : Shared) (H : Hp) (E : XK), Room k (A.deeper (envOfC q (defScope st) s.heap.objs.size a cdv)) →
      ∃ t, PSs (cxOf (L2.CX P w) P w K mg base N q (defScope st) a cdv A outer s H E) (defBody st) t ∧ StD K (some fun cls d _ H => E cls d H) t body) : CalF P w K mg base (L2.CX P w) (k + 1) a x q st dvs kvs ps (modSpX K (fnKX ps.length nl body)) := by
  obtain ⟨fd, F⟩ := F.ex
  refine ⟨fd, F.ok S (fun vs H Q E h => h.len fnKX_len) fun cdv A outer s H vs Q E hr h => ?_, F⟩
  obtain ⟨t, h1, h2⟩ := hb cdv A outer s H E hr
  exact ⟨t, h1, run_KX hN h h2⟩
/-- a def of the module that may raise -/
structure CalX (P : Program) (w : World) (K : PySem.W.Frag) (mg : Str → Option Value) (base : Heap) (k : Nat) (x : Str) (ps : List Str) (sp : Sp) : Prop where
  ex : ∃ f fd, FnOk P w K mg base (L2.CX P w) k f fd ps sp ∧ mg x = some (.ref f) ∧ PySem.W.keepIn K (.ref f) = true ∧ Binds K fd ps []
theorem cal_KX {x : Str} {st : Stmt} {N ps : List Str} {k nl : Nat} {body : MS} (F : Df K mg x st) (S : FnScope N ps (defScope st)) (hN : N.length = ps.length + nl)
    (hbd : ∀ (kV doc pm : Value) (an : Option Addr) (cdv ct : Value) (us : List Value), us.length = ps.length → bindArgs (PySem.W.fnOf x x (defArgs st) (defBody st) (defScope st) .none kV doc pm an cdv ct) ⟨us, []⟩ = pure (ps.zip us))
    (hb : ∀ (f : Addr) (cdv : Value) (A : Around) (outer : List Env) (s : Shared) (H : Hp) (E : XK), Room k (A.deeper (envOfC x (defScope st) s.heap.objs.size f cdv)) →
      ∃ t, PSs (cxOf (L2.CX P w) P w K mg base N x (defScope st) f cdv A outer s H E) (defBody st) t ∧ StD K (some fun cls d _ H => E cls d H) t body) : CalX P w K mg base (k + 1) x ps (modSpX K (fnKX ps.length nl body)) := by
  obtain ⟨f, fd, F, hm⟩ := F.ex
  refine ⟨f, fd, F.ok S (fun vs H Q E h => h.len fnKX_len) fun cdv A outer s H vs Q E hr h => ?_, hm, F.kp, F.bindsN hbd⟩
  obtain ⟨t, h1, h2⟩ := hb f cdv A outer s H E hr
  exact ⟨t, h1, run_KX hN h h2⟩
end
theorem pe_callX {X : Cx} {k : Nat} {x : Str} {ps : List Str} {sp : Sp} {e : Expr} {es : List Expr} {t : TA} {p pos : Pos} {E : L2.St → XK} (C : CalX X.prog X.w X.K X.mg X.base k x ps sp) (hr : Room k X.A) (hg : Gl X x) (hx : ∀ σ, PassesAt (L2.CX X.prog X.w) X σ (E σ)) (ha : PA X (e :: es) t)
    (hdb : (x == ("__debug__" : Str)) = false := by decide) (he : starEach (e :: es) X.env = (false, eval e X.env) :: starEach es X.env := by rfl) (hpl : (backTo pos (starEach es X.env)).any (·.1) = false := by rfl) : PE X (.Call (.Name x p) (e :: es) [] pos) (tCallX sp E t) := by
  obtain ⟨f, fd, F, hm, hk, hb⟩ := C.ex
  exact pe_callS F hr hg hm hk hb hx ha hdb he hpl
end My
namespace My
open PySem PySem.Spec PyProof.Rows L2
theorem closB_ok {K : PySem.W.Frag} {C : Addr} {file : Str} {g : FuncData} (h : closB K C file g = true) : ∃ cc cda, g.closure = [(("__class__" : Str), cc)] ∧ g.code = .ref cda ∧ (∃ (cl : Value) (cld : Option Addr) (csl : Array (Option Value)), K.lookup cc = some ⟨cl, cld, .cell (some (.ref C)), csl⟩) ∧
    ∃ (ccl : Value) (cdd : Option Addr) (vs : Array Value) (ccs : Array (Option Value)) (tf : Tok), K.lookup cda = some ⟨ccl, cdd, .fields vs, ccs⟩ ∧ vs[2]? = some (.str file tf) := by
  unfold closB at h
  obtain ⟨h1, h2⟩ := He.ba h
  split at h1
  · rename_i n cc hc
    obtain ⟨h3, h4⟩ := He.ba h1
    split at h4
    · rename_i o1 o2 D o4 hl
      split at h2
      · rename_i cda hcd
        split at h2
        · rename_i p1 p2 vs p4 hl2
          unfold fileB at h2
          split at h2
          · rename_i f tf hf
            refine ⟨cc, cda, ?_, hcd, ⟨o1, o2, o4, ?_⟩, p1, p2, vs, p4, tf, hl2, ?_⟩
            · rw [hc, of_decide_eq_true h3]
            · rw [hl, of_decide_eq_true h4]
            · rw [← of_decide_eq_true h2]
              exact hf
          · cases h2
        · cases h2
      · cases h2
    · cases h4
  · cases h1
theorem DefP.errFn {K : PySem.W.Frag} {d : DefP} {Cf : PySem.W.Frag → Addr} {file : Str} (he : d.err = some (Cf, file)) (hn : d.name = "__init__") (hdf : d.dfl = []) (e : fnP K (d.pa K) d.err.isSome = d.val) (c : d.ok K = true) :
    ∃ cc cda, ErrFn K (Cf K) (d.pa K) file d.params d.body d.scope cc cda d.qual := by
  obtain ⟨kp, c2⟩ := He.ba c
  rw [he] at e
  unfold fnP at e
  cases q : K.lookup (d.pa K) with
  | none =>
    rw [q] at c2
    cases c2
  | some o =>
    obtain ⟨oc, od, dt, osl⟩ := o
    rw [q] at c2 e
    cases dt with
    | func g =>
      obtain ⟨k1, k2⟩ := He.ba (show (PySem.W.codeIn K g.code d.qual && _) = true from c2)
      obtain ⟨k2, k5⟩ := He.ba k2
      rw [he] at k5
      obtain ⟨k3, k4⟩ := He.ba k2
      obtain ⟨cc, cda, hcl, hcd, hcell, hcode⟩ := closB_ok (show closB K (Cf K) file g = true from k5)
      have hD := He.dflB_ok k3
      have hv : d.dvs K = [] := by unfold DefP.dvs; rw [hdf]; rfl
      obtain ⟨m1, m2, m3, m4, m5, m6, m7, m8, m9, m10, m11, m12, m13, m14, m15⟩ := g
      have e2 : (some (m1, m2, m3, m4, m5, m6, [], m15) : He.FnW) = d.val := e
      unfold DefP.val at e2
      simp only [Option.some.injEq, Prod.mk.injEq] at e2
      obtain ⟨h1, h2, h3, h4, h5, h6, _, h8⟩ := e2
      dsimp only at hcl hcd
      subst h1 h2 h3 h4 h5 h6 h8 hcl hcd
      have h8n : m8 = .none := by
        rcases hD with ⟨_, h⟩ | ⟨h, _⟩
        · exact h
        · exact absurd hv h
      subst h8n
      refine ⟨cc, cda, ⟨oc, od, m9, m10, m11, m12, m14, osl, ?_⟩, k1, hcode, hcell⟩
      rw [q, hn]
      all_goals rfl
    | _ => cases c2
theorem errKB_ok {K : PySem.W.Frag} {C : Addr} {B newId initId : String} {tl : List Value} {fI : Addr} {fs : List Str} (eb : EBase B newId initId tl) (h : errKB K C B newId initId tl fI fs = true) : ErrK K C B newId initId tl fI fs := by
  obtain ⟨h, g⟩ := He.ba h
  obtain ⟨h1, h⟩ := He.ba h
  obtain ⟨h2, h⟩ := He.ba h
  obtain ⟨h3, h⟩ := He.ba h
  obtain ⟨h4, h⟩ := He.ba h
  obtain ⟨h5, h⟩ := He.ba h
  obtain ⟨h6, h⟩ := He.ba h
  obtain ⟨h7, h⟩ := He.ba h
  obtain ⟨h8, h⟩ := He.ba h
  obtain ⟨h9, h10⟩ := He.ba h
  obtain ⟨g1, g⟩ := He.ba g
  obtain ⟨g2, g⟩ := He.ba g
  obtain ⟨g3, g⟩ := He.ba g
  obtain ⟨g4, g⟩ := He.ba g
  obtain ⟨g5, g6⟩ := He.ba g
  exact ⟨eb, h1, h2, h3, of_decide_eq_true h4, h5, of_decide_eq_true h6, of_decide_eq_true h7, of_decide_eq_true h8, of_decide_eq_true h9, h10, of_decide_eq_true g1, of_decide_eq_true g2, of_decide_eq_true g3,
    fun f hf => ⟨of_decide_eq_true (He.ba (List.all_eq_true.mp g4 f hf)).1, of_decide_eq_true (He.ba (List.all_eq_true.mp g4 f hf)).2⟩, of_decide_eq_true g5, of_decide_eq_true g6⟩
theorem errT_of {K : PySem.W.Frag} {d : DefP} {C : Addr} {Cf : PySem.W.Frag → Addr} {file : Str} {B newId initId : String} {tl : List Value} {fs : List Str} (eb : EBase B newId initId tl) (hk : errKB K (Cf K) B newId initId tl (d.pa K) fs = true) (hC : Cf K = C) (he : d.err = some (Cf, file)) (hn : d.name = "__init__") (hdf : d.dfl = [])
    (ho : fnP K (d.pa K) d.err.isSome = d.val ∧ d.ok K = true) (S : ErrSc fs d.scope) (hI : InitOk fs d.body) (hp : ∃ ar, (d.params.posonlyargs ++ d.params.args).head? = some ar ∧ ar.arg = "self")
    (hb : ∀ (cc cda : Addr) (s' : Shared) (self : Value) (us : List Value) (kV doc pm : Value) (an : Option Addr) (ct : Value), us.length = fs.length → BindsTo s' (PySem.W.ksFn "__init__" d.qual d.params d.body d.scope .none kV doc pm an (.ref cda) ct cc) ⟨self :: us, []⟩ (("self", self) :: fs.zip us))
    (nd : fs.Nodup) (ns : ("self" : Str) ∉ fs) (le : fs.length ≤ 2) : ErrT K C fs file := by
  subst hC
  obtain ⟨cc, cda, Fn⟩ := DefP.errFn he hn hdf ho.1 ho.2
  have T := errKB_ok eb hk
  exact ⟨⟨B, newId, initId, tl, d.pa K, cc, cda, d.qual, d.params, d.body, d.scope, T, Fn, S, hI, hp, hb cc cda⟩, nd, ns, le, T.kp, T.ex, T.ty⟩
theorem ecB_ok {K : PySem.W.Frag} {ec : List (String × List String)} (h : ecB K ec = true) : EcOk K ec := ⟨fun p hp c hc => of_decide_eq_true (List.all_eq_true.mp (List.all_eq_true.mp h p hp) c hc)⟩
theorem erB_ok {K : PySem.W.Frag} {ec : List (String × List String)} {fs : List String} (h : erB K ec fs = true) : ErrOk K ec fs := by
  have key := fun p hp => He.ba (List.all_eq_true.mp h p hp)
  have k2 := fun p hp => He.ba (key p hp).2
  have k3 := fun p hp => He.ba (k2 p hp).2
  have k4 := fun p hp => He.ba (k3 p hp).2
  exact ⟨fun p hp => ⟨of_decide_eq_true (key p hp).1, of_decide_eq_true (k2 p hp).1, of_decide_eq_true (k3 p hp).1, (k4 p hp).1⟩, fun p hp f hf => of_decide_eq_true (List.all_eq_true.mp (k4 p hp).2 f hf)⟩
end My
namespace My
open PySem PySem.Spec PyProof.Rows L2 PySem.W PySem.SeqAt
open AutoSeq1 (wpAny_loadPart')
open MeetsSeq MeetsSeq2 MeetsSeq3 SeqRoads2
/-- a value of a built-in type -/
def BltV (K : PySem.W.Frag) (u : V) (H : Hp) : Prop := u = .non ∨ (∃ i, u = .int i) ∨ (∃ b, u = .bl b) ∨ (∃ l, u = .str l) ∨ (∃ p xs, u = .ref p ∧ SqT K H p xs) ∨ (∃ p xs, u = .ref p ∧ SqL K H p xs) ∨ ∃ p kvs, u = .ref p ∧ Rd H p (.dK kvs)
def bltTs : List String := ["NoneType", "int", "bool", "str", "tuple", "list", "dict"]
end My
namespace My
open PySem PySem.Spec PyProof.Rows L2
def bltD : D → Bool
  | .non => true
  | .int _ => true
  | .bl _ => true
  | .str _ => true
  | .tup _ => true
  | .lst _ => true
  | .dic false _ _ => true
  | _ => false
section
variable {K : PySem.W.Frag} {A : List Addr} {M : Addr → Prop} {μ μ' : Store} {H H' : Hp} {v w : V} {d : D} {xs ds : List D} {k : Nat} {te ta tb : TE} {m ma mb : Mo D} {vs : List V}
theorem bltD_ok (h : bltD d = true) (r : RepD K A M H v d) : BltV K v H := by
  cases d with
  | non => exact .inl r
  | int i => exact .inr (.inl ⟨i, r⟩)
  | bl b => exact .inr (.inr (.inl ⟨b, r⟩))
  | str l => exact .inr (.inr (.inr (.inl ⟨_, r⟩)))
  | tup ds => obtain ⟨p, vs, e, s, _⟩ := r; exact .inr (.inr (.inr (.inr (.inl ⟨p, vs, e, s.sq⟩))))
  | lst ds => obtain ⟨p, vs, e, s, _⟩ := r; exact .inr (.inr (.inr (.inr (.inr (.inl ⟨p, vs, e, s.sq⟩)))))
  | dic t ks ds =>
    cases t with
    | false => obtain ⟨p, vs, e, s, _⟩ := r; exact .inr (.inr (.inr (.inr (.inr (.inr ⟨p, _, e, s.1.1⟩)))))
    | true => cases h
  | _ => cases h
end
end My
namespace My
open PySem PySem.Spec PyProof.Rows L2 PySem.W PySem.HandSPX PySem.Calls PySem.Builtin PySem.Builtin.ObjectAttr
end My
namespace My
open PySem PySem.Spec PyProof.Rows L2 PySem.W PySem.Calls
end My
namespace My
open PySem PySem.Spec PyProof.Rows L2
end My
namespace My
open PySem PySem.Spec PyProof.Rows L2
/-- the written part holds the dict of modules -/
def smB (K : PySem.W.Frag) : Bool := match K.lookup sysModules with
  | some o => decide (o.cls = .type "dict")
  | none => false
mutual
inductive DpE (K : PySem.W.Frag) (H : Hp) : V → PyData → Prop
  | flat {v : V} {d : PyData} : Dp K H v d → (∀ a, v ≠ .ref a) → DpE K H v d
  | dic {a : Addr} : Rd H a (.dK []) → DpE K H (.ref a) (.dict [])
  | lst {a : Addr} {xs : List V} {ds : List PyData} : SqL K H a xs → DpEs K H xs ds → DpE K H (.ref a) (.list ds)
  | tup {a : Addr} {xs : List V} {ds : List PyData} : SqT K H a xs → DpEs K H xs ds → DpE K H (.ref a) (.tuple ds)
inductive DpEs (K : PySem.W.Frag) (H : Hp) : List V → List PyData → Prop
  | nil : DpEs K H [] []
  | cons {v : V} {vs : List V} {d : PyData} {ds : List PyData} : DpE K H v d → DpEs K H vs ds → DpEs K H (v :: vs) (d :: ds)
end
section
variable {X : Cx} {pins : List (Addr × Obj)} {σ : L2.St} {H : Hp} {s : Shared}
theorem sm_ne {a : Addr} {o : Obj} (hb : smB X.K = true) (I : Inv X pins σ H s) (e : s.heap.get? a = some o) (hc : o.cls = .type "list") : a ≠ sysModules := fun z => by
  unfold smB at hb
  split at hb
  · rename_i o1 h1
    have h2 := I.kIn _ _ h1
    rw [← z, e] at h2
    cases h2
    rw [hc] at hb
    exact absurd (of_decide_eq_true hb) (fun q => nomatch q)
  · cases hb
theorem flat_reads {v : V} {d : PyData} {u : Value} (I : Inv X pins σ H s) (h : Dp X.K H v d) (hv : ∀ a, v ≠ .ref a) (r : RelV v u) : Reads s.heap u d [] := by
  cases h with
  | non => cases r; exact Reads.none
  | bl b => cases r; exact Reads.bool b
  | int i => obtain ⟨t, rfl⟩ := r; exact Reads.int i t
  | str x => obtain ⟨t, rfl⟩ := r; exact Reads.str x t
  | lst => exact absurd rfl (hv _)
  | tup => exact absurd rfl (hv _)
mutual
theorem DpE.reads (hb : smB X.K = true) (I : Inv X pins σ H s) : ∀ (d : PyData) (v : V) (u : Value), DpE X.K H v d → RelV v u → ∃ as, Reads s.heap u d as ∧ sysModules ∉ as
  | .list ds, v, u, h, r => by
    cases h with
    | flat h1 h2 => exact ⟨[], flat_reads I h1 h2 r, fun z => nomatch z⟩
    | lst hs ha =>
      cases r
      obtain ⟨its, rv, ⟨o, n, ho, hc, _, hd⟩, _⟩ := I.list hs
      obtain ⟨as, hr, hn⟩ := DpE.readsAll hb I ds _ its ha rv
      refine ⟨_, Reads.list ho hc hd hr, fun z => ?_⟩
      rcases List.mem_cons.mp z with z | z
      · exact sm_ne hb I ho hc z.symm
      · exact hn z
  | .tuple ds, v, u, h, r => by
    cases h with
    | flat h1 h2 => exact ⟨[], flat_reads I h1 h2 r, fun z => nomatch z⟩
    | tup hs ha =>
      cases r
      obtain ⟨its, rv, ⟨o, ho, hc, n, hd⟩, _⟩ := I.tuple hs
      obtain ⟨as, hr, hn⟩ := DpE.readsAll hb I ds _ its ha rv
      exact ⟨_, Reads.tuple ho hc hd hr, hn⟩
  | .dict kvs, v, u, h, r => by
    cases h with
    | flat h1 h2 => exact ⟨[], flat_reads I h1 h2 r, fun z => nomatch z⟩
    | dic ha =>
      cases r
      obtain ⟨_, hsm, vs, kv, o, es, ep, ho, hx, hd, _, pr, _⟩ := dk_rd I.hok ha
      have hvs : vs = [] := by cases kv; rfl
      subst hvs
      have hes : es.toList = [] := by
        generalize es.toList = l at pr
        cases pr
        rfl
      refine ⟨_, Reads.dict (as := []) (bs := []) ho hx.1 hd (by rw [hes]; exact ReadsAll.nil) (by rw [hes]; exact ReadsAll.nil), fun z => ?_⟩
      have z : sysModules ∈ [_] := z
      rw [List.mem_singleton] at z
      exact beq_eq_false_iff_ne.mp hsm z.symm
  | .none, v, u, h, r => by
    cases h with
    | flat h1 h2 => exact ⟨[], flat_reads I h1 h2 r, fun z => nomatch z⟩
  | .bool _, v, u, h, r => by
    cases h with
    | flat h1 h2 => exact ⟨[], flat_reads I h1 h2 r, fun z => nomatch z⟩
  | .int _, v, u, h, r => by
    cases h with
    | flat h1 h2 => exact ⟨[], flat_reads I h1 h2 r, fun z => nomatch z⟩
  | .str _, v, u, h, r => by
    cases h with
    | flat h1 h2 => exact ⟨[], flat_reads I h1 h2 r, fun z => nomatch z⟩
theorem DpE.readsAll (hb : smB X.K = true) (I : Inv X pins σ H s) : ∀ (ds : List PyData) (vs : List V) (us : List Value), DpEs X.K H vs ds → Vals vs us → ∃ as, ReadsAll s.heap us ds as ∧ sysModules ∉ as
  | [], _, _, h, r => by
    cases h
    cases r
    exact ⟨_, ReadsAll.nil, fun z => nomatch z⟩
  | d :: ds, _, _, h, r => by
    cases h with
    | cons h1 h2 =>
      cases r with
      | cons r1 r2 =>
        obtain ⟨as, q1, n1⟩ := DpE.reads hb I d _ _ h1 r1
        obtain ⟨bs, q2, n2⟩ := DpE.readsAll hb I ds _ _ h2 r2
        exact ⟨_, ReadsAll.cons q1 q2, fun z => (List.mem_append.mp z).elim n1 n2⟩
end
end
end My
namespace My
open PySem PySem.Spec PyProof.Rows L2
end My
namespace My
open PySem PySem.Spec PyProof.Rows L2
abbrev lq (X : Cx) : Str := X.env.qual ++ "<lambda>"
end My
namespace My
open PySem PySem.Spec PyProof.Rows L2
end My
namespace My
open PySem PySem.Spec PyProof.Rows L2
end My
namespace My
open PySem PySem.Spec PyProof.Rows L2
end My
namespace My
open PySem PySem.Spec PyProof.Rows L2
theorem passC0 {X : Cx} : Passes (L2.CX X.prog X.w) X E0 := fun _ _ _ _ _ _ _ h => by
  obtain ⟨_, _, _, _, _, _, _, _, _, _, _, _, hE⟩ := h
  exact hE.elim
end My
namespace My
open PySem PySem.Spec PyProof.Rows L2
end My
namespace My
open PySem PySem.Spec PyProof.Rows L2 PySem.W PySem.Calls
end My
namespace My
open PySem PySem.Spec PyProof.Rows L2
end My
namespace My
open PySem PySem.Spec PyProof.Rows L2
end My
namespace My
open PySem PySem.Spec PyProof.Rows L2
theorem hu1 {k : Nat} {A : Around} (r : Room k A) : A.units + 1 < cLine := by have := hu65 r; omega
section
variable {X : Cx}
def rIxDk : R2 := fun x y H Q => ∃ a v, x = .ref a ∧ DGet H a y (some v) ∧ Q v H
theorem ix_dk (hu : X.A.units + 1 < cLine) : IxR X rIxDk := by
  intro value slice pins s σ H x y v u Q I rx ry h hs
  obtain ⟨a, r, rfl, g, q⟩ := h
  obtain rfl : v = Value.ref a := rx
  exact tail_any (dict_typeIs I g) PySem.F.slot_dict_getitem.lookup (d_getItem hu I g ry fun w' s3 I3 rw' => ⟨r, H, I3, rw', q⟩) hs
def rIxU (K : PySem.W.Frag) : R2 := fun x y H Q => rIx K x y H Q ∨ rIxDk x y H Q
theorem ix_anyD {K : PySem.W.Frag} (hu : X.A.units + 1 < cLine) (hK : X.K = K := by rfl) : IxR X (rIxU K) := (ix_any hK).or (ix_dk hu)
def rInDk : R2 := fun x y H Q => ∃ a o, y = .ref a ∧ DGet H a x o ∧ Q (.bl o.isSome) H
def rNiDk : R2 := fun x y H Q => ∃ a o, y = .ref a ∧ DGet H a x o ∧ Q (.bl (!o.isSome)) H
theorem op_inDk (hu : X.A.units + 1 < cLine) : OpR X (compareOp .In) rInDk := by
  intro pins s σ H x y v u Q I rx ry h
  obtain ⟨a, o, rfl, g, q⟩ := h
  obtain rfl : u = Value.ref a := ry
  exact d_in hu I g rx fun s3 I3 => ⟨.bl o.isSome, H, I3, rfl, q⟩
theorem op_niDk (hu : X.A.units + 1 < cLine) : OpR X (compareOp .NotIn) rNiDk := by
  intro pins s σ H x y v u Q I rx ry h
  obtain ⟨a, o, rfl, g, q⟩ := h
  obtain rfl : u = Value.ref a := ry
  exact d_notIn hu I g rx fun s3 I3 => ⟨.bl (!o.isSome), H, I3, rfl, q⟩
def rInUD (K : PySem.W.Frag) : R2 := fun x y H Q => rInU K x y H Q ∨ rInDk x y H Q
def rNiUD (K : PySem.W.Frag) : R2 := fun x y H Q => rNotInU K x y H Q ∨ rNiDk x y H Q
theorem cm_InD {K : PySem.W.Frag} (hu : X.A.units + 65 < cLine) (hK : X.K = K := by rfl) : OpR X (compareOp .In) (rInUD K) := (cm_In hu hK).or (op_inDk (by omega))
theorem cm_NotInD {K : PySem.W.Frag} (hu : X.A.units + 65 < cLine) (hK : X.K = K := by rfl) : OpR X (compareOp .NotIn) (rNiUD K) := (cm_NotIn hu hK).or (op_niDk (by omega))
def rSetU : TSet := fun o i v H Q => rSetL o i v H Q ∨ rSetD o i v H Q
theorem set_any (hu : X.A.units + 1 < cLine) : PSet X rSetU := by
  intro pins s σ H o i v ov iv u Q I ro ri rv h
  rcases h with h | h
  · exact set_list pins s σ H o i v ov iv u Q I ro ri rv h
  · exact set_dict hu pins s σ H o i v ov iv u Q I ro ri rv h
end
end My
namespace My
open PySem PySem.Spec PyProof.Rows L2
section
variable {K : PySem.W.Frag} {A : List Addr} {M : Addr → Prop} {μ : Store} {H : Hp}
def getK : List Key → List D → Key → Option D
  | q :: ks, x :: xs, k => if q = k then some x else getK ks xs k
  | _, _, _ => none
def setK {α : Type} : List Key → List α → Key → α → List α
  | q :: ks, x :: xs, k, d => (if q = k then d else x) :: setK ks xs k d
  | _, _, _, _ => []
/-- a dict that stands: its keys and values -/
def dkv (μ : Store) : D → Option (List Key × List D)
  | .dic false ks xs => (keysD ks).map fun q => (q, xs)
  | .ref k => match μ[k]? with
    | some (.dic false ks xs) => (keysD ks).map fun q => (q, xs)
    | _ => none
  | _ => none
theorem keysD_len : ∀ {ks : List D} {q : List Key}, keysD ks = some q → q.length = ks.length
  | [], q, h => by cases h; rfl
  | d :: ds, q, h => by
    unfold keysD at h
    split at h
    · rename_i k ks' e1 e2
      cases h
      rw [List.length_cons, List.length_cons, keysD_len e2]
    · cases h
theorem dkv_rep {d : D} {v : V} {r : List Key × List D} (ok : Ok K A M μ H) (rx : RepD K A M H v d) (e : dkv μ d = some r) : ∃ p vs, v = .ref p ∧ Rd H p (.dK (r.1.zip vs)) ∧ r.1.length = vs.length ∧ RepL K A M H vs r.2 := by
  unfold dkv at e
  split at e
  · rename_i ks xs
    obtain ⟨q, e1, rfl⟩ := Option.map_eq_some_iff.mp e
    obtain ⟨p, vs, rfl, ⟨hp, _⟩, ⟨hl, _⟩, rr⟩ := rx
    have h := hp.1
    unfold dicO at h
    rw [e1] at h
    exact ⟨p, vs, rfl, h, (keysD_len e1).trans hl, rr⟩
  · rename_i k
    split at e
    · rename_i ks xs hc
      obtain ⟨q, e1, rfl⟩ := Option.map_eq_some_iff.mp e
      obtain ⟨a, rfl, ha⟩ := rx
      obtain ⟨x, vs, h1, h2, _, h4⟩ := (ok.rep k a _ ha hc).get
      refine ⟨a, vs, rfl, ?_, ?_, h2⟩
      · refine .inl ?_
        rw [h1]
        show some (dicO false ks vs) = _
        unfold dicO
        rw [e1]
        rfl
      · rw [keysD_len e1, h2.len]
        have h5 : (ks.length == xs.length && keysOk false ks) = true := h4
        rw [Bool.and_eq_true, beq_iff_eq] at h5
        exact h5.1
    · cases e
  · cases e
theorem valV_get : ∀ {ks : List Key} {vs : List V} {xs : List D}, ks.length = vs.length → RepL K A M H vs xs → ∀ k : Key, (∀ d, getK ks xs k = some d → ∃ v, valV (ks.zip vs) k = some v ∧ RepD K A M H v d) ∧ (getK ks xs k = none → valV (ks.zip vs) k = none)
  | [], vs, xs, hl, r, k => ⟨fun d h => (nomatch h), fun _ => rfl⟩
  | q :: ks, [], xs, hl, r, k => by cases hl
  | q :: ks, v :: vs, [], hl, r, k => by cases (show v :: vs = [] from r)
  | q :: ks, v :: vs, x :: xs, hl, r, k => by
    obtain ⟨v', r', e, hv, hr⟩ := r
    cases e
    have ih := valV_get (ks := ks) (by simpa using hl) hr k
    rw [getK, List.zip_cons_cons]
    by_cases h : q = k
    · rw [if_pos h, valV_pos h]
      exact ⟨fun d e => by cases e; exact ⟨v, rfl, hv⟩, fun e => nomatch e⟩
    · rw [if_neg h, valV_neg h]
      exact ih
theorem keyD_rep {d : D} {v : V} {k : Key} (e : keyD d = some k) (r : RepD K A M H v d) : v = kV k := by
  unfold keyD at e
  split at e
  · cases e; exact r
  · cases e; exact r
  · cases e
theorem _root_.L2.DGet.kR {H : Hp} {a : Addr} {kvs : List (Key × V)} {k : Key} (e : Rd H a (.dK kvs)) : DGet H a (kV k) (valV kvs k) := .inl ⟨kvs, k, e, rfl, rfl⟩
def dIxD (μ : Store) (x y : D) : Option D := match dkv μ x with
  | some r => (match keyD y with
    | some k => getK r.1 r.2 k
    | none => none)
  | none => dIx μ x y
theorem od_ixD : OpD K (rIxU K) dIxD := fun A M μ H x y dx dy d ok rx ry e Q f => by
  unfold dIxD at e
  split at e
  · rename_i r hr
    split at e
    · rename_i k hk
      obtain ⟨p, vs, rfl, hp, hl, rr⟩ := dkv_rep ok rx hr
      obtain ⟨v, h1, h2⟩ := (valV_get hl rr k).1 d e
      cases keyD_rep hk ry
      exact .inr ⟨p, v, rfl, h1 ▸ DGet.kR hp, f _ H (Evl.Ex.refl _) h2⟩
    · cases e
  · exact .inl (od_ix A M μ H x y dx dy d ok rx ry e Q f)
def dHasK (μ : Store) (x y : D) : Option Bool := match dkv μ y with
  | some r => (match keyD x with
    | some k => some (getK r.1 r.2 k).isSome
    | none => none)
  | none => none
theorem dHasK_rep {x y : V} {dx dy : D} {b : Bool} (ok : Ok K A M μ H) (rx : RepD K A M H x dx) (ry : RepD K A M H y dy) (e : dHasK μ dx dy = some b) : ∃ a o, y = .ref a ∧ DGet H a x o ∧ o.isSome = b := by
  unfold dHasK at e
  split at e
  · rename_i r hr
    split at e
    · rename_i k hk
      cases e
      obtain ⟨p, vs, rfl, hp, hl, rr⟩ := dkv_rep ok ry hr
      cases keyD_rep hk rx
      have hg := valV_get hl rr k
      cases h : getK r.1 r.2 k with
      | none => exact ⟨p, none, rfl, hg.2 h ▸ DGet.kR hp, rfl⟩
      | some d =>
        obtain ⟨v, h1, _⟩ := hg.1 d h
        exact ⟨p, some v, rfl, h1 ▸ DGet.kR hp, rfl⟩
    · cases e
  · cases e
def dInD (μ : Store) (x y : D) : Option D := match dHasK μ x y with
  | some b => some (.bl b)
  | none => dIn μ x y
def dNiD (μ : Store) (x y : D) : Option D := match dHasK μ x y with
  | some b => some (.bl (!b))
  | none => dNi μ x y
theorem od_inD : OpD K (rInUD K) dInD := fun A M μ H x y dx dy d ok rx ry e Q f => by
  unfold dInD at e
  split at e
  · rename_i b hb
    cases e
    obtain ⟨a, o, h1, h2, h3⟩ := dHasK_rep ok rx ry hb
    exact .inr ⟨a, o, h1, h2, f _ H (Evl.Ex.refl _) (by rw [h3]; rfl)⟩
  · exact .inl (od_in A M μ H x y dx dy d ok rx ry e Q f)
theorem od_niD : OpD K (rNiUD K) dNiD := fun A M μ H x y dx dy d ok rx ry e Q f => by
  unfold dNiD at e
  split at e
  · rename_i b hb
    cases e
    obtain ⟨a, o, h1, h2, h3⟩ := dHasK_rep ok rx ry hb
    exact .inr ⟨a, o, h1, h2, f _ H (Evl.Ex.refl _) (by rw [h3]; rfl)⟩
  · exact .inl (od_ni A M μ H x y dx dy d ok rx ry e Q f)
def hasK (ks : List Key) (k : Key) : Bool := ks.any fun q => decide (q = k)
theorem putK_zip {k : Key} {v : V} : ∀ {ks : List Key} {vs : List V}, ks.length = vs.length → ((ks.zip vs).any fun kv => decide (kv.1 = k)) = hasK ks k ∧ (ks.zip vs).map (fun kv => if kv.1 = k then (kv.1, v) else kv) = ks.zip (setK ks vs k v)
  | [], [], _ => ⟨rfl, rfl⟩
  | q :: ks, [], h => by cases h
  | [], q :: vs, h => by cases h
  | q :: ks, x :: vs, h => by
    obtain ⟨h1, h2⟩ := putK_zip (k := k) (v := v) (ks := ks) (vs := vs) (by simpa using h)
    refine ⟨?_, ?_⟩
    · rw [List.zip_cons_cons, List.any_cons, h1]
      rfl
    · rw [List.zip_cons_cons, List.map_cons, h2, setK, List.zip_cons_cons]
      by_cases z : q = k
      · simp only [if_pos z]
      · simp only [if_neg z]
theorem setK_rep {k : Key} {v : V} {d : D} (hv : RepD K A M H v d) : ∀ {ks : List Key} {vs : List V} {xs : List D}, ks.length = vs.length → RepL K A M H vs xs → RepL K A M H (setK ks vs k v) (setK ks xs k d)
  | [], vs, xs, hl, r => rfl
  | q :: ks, [], xs, hl, r => by cases hl
  | q :: ks, v' :: vs, [], hl, r => by cases (show v' :: vs = [] from r)
  | q :: ks, v' :: vs, x :: xs, hl, r => by
    obtain ⟨v2, r', e, h1, h2⟩ := r
    cases e
    have ih := setK_rep (k := k) hv (ks := ks) (by simpa using hl) h2
    rw [setK, setK]
    by_cases z : q = k
    · rw [if_pos z, if_pos z]; exact ⟨v, _, rfl, hv, ih⟩
    · rw [if_neg z, if_neg z]; exact ⟨v', _, rfl, h1, ih⟩
theorem pureL_setK {k : Key} {d : D} (hd : pureD d = true) : ∀ {ks : List Key} {xs : List D}, pureL xs = true → pureL (setK ks xs k d) = true
  | [], _, _ => rfl
  | _ :: _, [], _ => rfl
  | q :: ks, x :: xs, h => by
    obtain ⟨h1, h2⟩ := (Bool.and_eq_true _ _).mp h
    rw [setK]
    refine (Bool.and_eq_true _ _).mpr ⟨?_, pureL_setK hd h2⟩
    split
    · exact hd
    · exact h1
theorem setK_len {α : Type} {k : Key} {d : α} : ∀ {ks : List Key} {xs : List α}, ks.length = xs.length → (setK ks xs k d).length = xs.length
  | [], [], _ => rfl
  | [], _ :: _, h => by cases h
  | _ :: _, [], h => by cases h
  | q :: ks, x :: xs, h => by rw [setK, List.length_cons, List.length_cons, setK_len (by simpa using h)]
theorem keysD_app : ∀ {ks : List D} {q : List Key} {d : D} {k : Key}, keysD ks = some q → keyD d = some k → keysD (ks ++ [d]) = some (q ++ [k])
  | [], q, d, k, h, hd => by
    cases h
    show keysD [d] = some [k]
    simp only [keysD, hd]
  | x :: ks, q, d, k, h, hd => by
    unfold keysD at h
    split at h
    · rename_i k' q' e1 e2
      cases h
      rw [List.cons_append, keysD, e1, keysD_app e2 hd]
      rfl
    · cases h
def putKD (ks xs : List D) (j y : D) : Option (List D × List D) := match keysD ks, keyD j with
  | some q, some k => if hasK q k = true then some (ks, setK q xs k y) else some (ks ++ [j], xs ++ [y])
  | _, _ => none
def sSetIxD (e o i : Mo D) : MS := fun env μ => match e env μ with
  | .ok y μ0 => (match o env μ0 with
    | .ok (.ref k) μ1 => (match i env μ1 with
      | .ok j μ2 => (match μ2[k]? with
        | some (.dic false ks xs) => (match putKD ks xs j y with
          | some r => if pureD y = true ∧ ks.length < 100000 then .nx env (μ2.set k (.dic false r.1 r.2)) else .no
          | none => .no)
        | some (.lst ds) => (match j with
          | .int j => if pureD y = true ∧ 0 ≤ j ∧ j.toNat < ds.length then .nx env (μ2.set k (.lst (ds.set j.toNat y))) else .no
          | _ => .no)
        | _ => .no)
      | _ => .no)
    | _ => .no)
  | _ => .no
theorem t_setIxD {W : Option WX} {te ta ti : TE} {m ma mi : Mo D} (h : EvD K te m) (ho : EvD K ta ma) (hi : EvD K ti mi) : StD K W (tAsg te (gSub ta ti rSetU)) (sSetIxD m ma mi) := fun A M μ H σ env E ok en p => by
  unfold sSetIxD at p
  cases e : m env μ with
  | no => rw [e] at p; exact p.elim
  | rz => rw [e] at p; exact p.elim
  | ok y μ0 =>
    rw [e] at p
    dsimp only at p
    refine h A M μ H σ env y μ0 ok en e _ fun v H1 A1 f1 ok1 r1 => ?_
    split at p
    · rename_i k μ1 e1
      refine ho A1 M μ0 H1 σ env _ _ ok1 (en.go f1.go) e1 _ fun w H2 A2 f2 ok2 r2 => ?_
      obtain ⟨a, rfl, ha⟩ := r2
      split at p
      · rename_i j μ2 e2
        refine hi A2 M _ H2 σ env _ _ ok2 (en.go (f1.trans f2).go) e2 _ fun u H3 A3 f3 ok3 r3 => ?_
        have ha3 := (f3.go (M := M)).ix _ _ ha
        split at p
        · rename_i ks xs hc
          split at p
          · rename_i r hr
            split at p
            · rename_i hp
              obtain ⟨x, vs, h1, h2, h3, h4⟩ := (ok3.rep k a _ ha3 hc).get
              have h5 : (ks.length == xs.length && keysOk false ks) = true := h4
              rw [Bool.and_eq_true, beq_iff_eq] at h5
              have ry := RepD.go (f2.trans f3).go r1
              unfold putKD at hr
              split at hr
              · rename_i q q1 hq hk
                have hvl : q.length = vs.length := by rw [keysD_len hq, h5.1, h2.len]; rfl
                have ho : H3 a = some (.dK (q.zip vs)) := by
                  rw [h1]
                  show some (dicO false ks vs) = _
                  unfold dicO
                  rw [hq]
                  rfl
                have hz : (q.zip vs).length < sizeLine := by
                  rw [List.length_zip, keysD_len hq]
                  have : sizeLine = 16777216 := by decide
                  omega
                cases keyD_rep hk r3
                obtain ⟨z1, z2⟩ := putK_zip (k := q1) (v := v) hvl
                split at hr
                · rename_i hm
                  cases hr
                  obtain ⟨ok4, f4⟩ := ok3.cellSet (x := 0) (c := .dic false ks (setK q xs q1 y)) (vs := setK q vs q1 v) ha3 (setK_rep ry hvl h2) (pureL_setK hp.1 h3) (by
                    show (ks.length == (setK q xs q1 y).length && keysOk false ks) = true
                    rw [setK_len (by rw [keysD_len hq]; exact h5.1), h5.2, ← h5.1]
                    simp)
                  have fu := (f1.trans f2).trans (f3.trans f4)
                  have eo : cellHO K 0 (setK q vs q1 v) (.dic false ks (setK q xs q1 y)) = .dK (putK (q.zip vs) q1 v) := by
                    show dicO false ks _ = _
                    unfold dicO putK
                    rw [hq, z1, if_pos hm, z2]
                    rfl
                  rw [eo] at ok4 f4 fu
                  exact .inr ⟨a, _, rfl, DPut.k ho hz, p σ _ A3 fu ok4 (en.go fu.go)⟩
                · rename_i hm
                  cases hr
                  obtain ⟨ok4, f4⟩ := ok3.cellSet (x := 0) (c := .dic false (ks ++ [j]) (xs ++ [y])) (vs := vs ++ [v]) ha3 (h2.app (.one ry)) (by
                    show pureL (xs ++ [y]) = true
                    rw [pureL_app, show pureL xs = true from h3]
                    simp only [pureL, hp.1, Bool.and_self]) (by
                    show ((ks ++ [j]).length == (xs ++ [y]).length && keysOk false (ks ++ [j])) = true
                    rw [List.length_append, List.length_append, h5.1]
                    unfold keysOk
                    rw [keysD_app hq hk]
                    simp)
                  have fu := (f1.trans f2).trans (f3.trans f4)
                  have eo : cellHO K 0 (vs ++ [v]) (.dic false (ks ++ [j]) (xs ++ [y])) = .dK (putK (q.zip vs) q1 v) := by
                    show dicO false (ks ++ [j]) _ = _
                    unfold dicO putK
                    rw [keysD_app hq hk, z1, if_neg hm]
                    show HO.dK ((q ++ [q1]).zip (vs ++ [v])) = _
                    rw [List.zip_append hvl]
                    rfl
                  rw [eo] at ok4 f4 fu
                  exact .inr ⟨a, _, rfl, DPut.k ho hz, p σ _ A3 fu ok4 (en.go fu.go)⟩
              · cases hr
            · exact p.elim
          · exact p.elim
        · rename_i ds hc
          split at p
          · rename_i j
            cases r3
            split at p
            · rename_i hp
              obtain ⟨vs, h1, h2, h3⟩ := cell_rep ok3 ha3 (show cellOf _ k = some ds by unfold cellOf; rw [hc])
              obtain ⟨ok4, f4⟩ := ok3.cellSet (x := 0) (c := .lst (ds.set j.toNat y)) ha3 (h2.set j.toNat (RepD.go (f2.trans f3).go r1)) (pureL_set _ h3 hp.1) rfl
              have fu := (f1.trans f2).trans (f3.trans f4)
              refine .inl ⟨a, vs, j, j.toNat, rfl, rfl, h1, ?_, p σ _ A3 fu ok4 (en.go fu.go)⟩
              have := hp.2.2
              have e3 : (j.toNat : Int) = j := Int.toNat_of_nonneg hp.2.1
              rw [← e3, Int.toNat_natCast]
              exact Evl.ixN_nat (by rw [h2.len]; omega)
            · exact p.elim
          · exact p.elim
        · exact p.elim
      · exact p.elim
    · exact p.elim
end
end My
namespace My
open PySem PySem.Spec PyProof.Rows L2
end My
namespace My
open PySem PySem.Spec PyProof.Rows L2
/-- a new dict: its keys and values -/
def EvK (K : PySem.W.Frag) (te : TE) (m : Mo (List D × List D)) : Prop := ∀ (A : List Addr) (M : Addr → Prop) (μ : Store) (H : Hp) (σ : L2.St) (env : En) (r : List D × List D) (μ' : Store), Ok K A M μ H → EnvRep K A M H σ env → m env μ = .ok r μ' →
  ∀ Q : VK, (∀ p vs H' A', Fut A H A' H' → Ok K A' (MP M p) μ' H' → H' p = some (dicO false r.1 vs) → H p = none → r.1.length = vs.length → keysOk false r.1 = true → RepL K A' (MP M p) H' vs r.2 → Q (.ref p) H') → te σ H Q
def mFzD (m : Mo (List D × List D)) : Mo D := fun env μ => (m env μ).bind fun r μ1 => .ok (.dic false r.1 r.2) μ1
def mCellD (m : Mo (List D × List D)) : Mo D := fun env μ => (m env μ).bind fun r μ1 => if pureL r.2 = true then .ok (.ref μ1.length) (μ1 ++ [.dic false r.1 r.2]) else .no
section
variable {K : PySem.W.Frag} {te : TE} {cm : Mo (List D × List D)}
theorem d_fzD (h : EvK K te cm) : EvD K te (mFzD cm) := fun A M μ H σ env d μ' ok en e Q f => by
  obtain ⟨r, μ1, e1, e2⟩ := Rs.bind_ok e
  cases e2
  refine h A M μ H σ env _ _ ok en e1 Q fun p vs H' A' fu ok' hp h0 hl hk rr => ?_
  refine f _ H' A' fu (ok'.less fun a m => .inl m) ⟨p, vs, rfl, ⟨⟨.inl hp, fun _ => hp⟩, fun z => ?_⟩, ⟨hl, hk⟩, RepL.go go_less rr⟩
  rcases z with z | z
  · exact ok'.dis p z (.inr rfl)
  · exact ok.al p z h0
theorem d_cellD (h : EvK K te cm) : EvD K te (mCellD cm) := fun A M μ H σ env d μ' ok en e Q f => by
  obtain ⟨r, μ1, e1, e2⟩ := Rs.bind_ok e
  split at e2
  · rename_i hq
    cases e2
    refine h A M μ H σ env r μ1 ok en e1 Q fun p vs H' A' fu ok' hp h0 hl hk rr => ?_
    refine f _ H' (A' ++ [p]) ⟨?_, fun a ha => ?_, fu.pr⟩ (ok'.thaw (x := 0) (c := .dic false r.1 r.2) hp (fun z => ok.al p z h0) rr hq ?_) ⟨p, rfl, ?_⟩
    · obtain ⟨B, rfl⟩ := fu.pre
      exact ⟨B ++ [p], by simp⟩
    · rcases List.mem_append.mp ha with z | z
      · exact fu.new a z
      · rw [List.mem_singleton.mp z]
        exact .inr h0
    · show (r.1.length == r.2.length && keysOk false r.1) = true
      rw [hk, hl, rr.len]
      simp
    · rw [← ok'.len]
      simp
  · cases e2
/-- a new object that may change yet -/
theorem Ok.openM {A : List Addr} {M : Addr → Prop} {μ : Store} {H : Hp} {p : Addr} {o : HO} (ok : Ok K A M μ H) (hp : H p = none) (ho : ∀ q, o ≠ LamX.CodeO p q) : Ok K A (MP M p) μ (upd H p o) ∧ Go A M H A (MP M p) (upd H p o) := by
  have hpA := ok.fresh hp
  have g : Go A M H A (MP M p) (upd H p o) := ⟨fun _ _ h => h, fun a z => by
    rcases z with z | z | z
    · exact .inl (.inl z)
    · exact .inl (.inr z)
    · rw [z]; exact .inr hp, fun a u hm e => by
    have ne : a ≠ p := fun z => by rw [z, hp] at e; cases e
    rw [upd_ne ne]; exact e⟩
  refine ⟨⟨ok.nd, ok.len, fun k a c h1 h2 => ?_, fun a mm => ?_, fun a ha mm => ?_, fun a mm q z => ?_⟩, g⟩
  · have hr := ok.rep k a _ h1 h2
    have ne : a ≠ p := fun z => hr.alive (by rw [z]; exact hp)
    exact hr.stay g (upd_ne ne) fun c q z => by rw [upd_ne (ne_of_none z hp)]; exact z
  · by_cases z : a = p
    · rw [z, upd_same]; exact fun z => nomatch z
    · rw [upd_ne z]; exact ok.al a (mm.resolve_right z)
  · rcases mm with mm | mm
    · exact ok.dis a ha mm
    · exact hpA (.inl (mm ▸ ha))
  · by_cases y : a = p
    · rw [y, upd_same] at z; subst y; exact ho q (Option.some.inj z)
    · rw [upd_ne y] at z; exact ok.nc a (mm.resolve_right y) q z
theorem k_new : EvK K tDNewK (mC ([], [])) := fun A M μ H σ env r μ' ok en e Q f => by
  cases e
  intro p hp
  obtain ⟨ok', _⟩ := ok.openM (o := .dK []) hp fun q z => by unfold LamX.CodeO at z; cases z
  exact f p [] _ A (.newO hp) ok' upd_same hp rfl rfl rfl
def mPairs : List (Mo D × Mo D) → Mo (List D × List D)
  | [] => fun _ μ => .ok ([], []) μ
  | (mk, mv) :: r => fun env μ => (mk env μ).bind fun k μ1 => (mv env μ1).bind fun v μ2 => (mPairs r env μ2).bind fun ps μ3 => .ok (k :: ps.1, v :: ps.2) μ3
def EvP2 (K : PySem.W.Frag) (trs : List (TE × TE)) (mps : List (Mo D × Mo D)) : Prop := ∀ (A : List Addr) (M : Addr → Prop) (μ : Store) (H : Hp) (σ : L2.St) (env : En) (r : List D × List D) (μ' : Store), Ok K A M μ H → EnvRep K A M H σ env → mPairs mps env μ = .ok r μ' →
  ∀ Q : List (V × V) → Hp → Prop, (∀ us vs H' A', Fut A H A' H' → Ok K A' M μ' H' → RepL K A' M H' us r.1 → RepL K A' M H' vs r.2 → Q (us.zip vs) H') → tPairs trs σ H Q
theorem p2_nil : EvP2 K [] [] := fun A M μ H σ env r μ' ok en e Q f => by
  cases e
  exact f [] [] H A .refl ok rfl rfl
theorem p2_cons {tk tv : TE} {mk mv : Mo D} {trs : List (TE × TE)} {mps : List (Mo D × Mo D)} (hk : EvD K tk mk) (hv : EvD K tv mv) (hr : EvP2 K trs mps) : EvP2 K ((tk, tv) :: trs) ((mk, mv) :: mps) := fun A M μ H σ env r μ' ok en e Q f => by
  obtain ⟨k, μ1, e1, e⟩ := Rs.bind_ok e
  obtain ⟨v, μ2, e2, e⟩ := Rs.bind_ok e
  obtain ⟨ps, μ3, e3, e⟩ := Rs.bind_ok e
  cases e
  refine hk A M μ H σ env k μ1 ok en e1 _ fun x H1 A1 f1 ok1 r1 => ?_
  refine hv A1 M μ1 H1 σ env v μ2 ok1 (en.go f1.go) e2 _ fun y H2 A2 f2 ok2 r2 => ?_
  refine hr A2 M μ2 H2 σ env ps _ ok2 (en.go (f1.trans f2).go) e3 _ fun us vs H3 A3 f3 ok3 r3 r4 => ?_
  exact f (x :: us) (y :: vs) H3 A3 ((f1.trans f2).trans f3) ok3 ⟨x, us, rfl, RepD.go (f2.trans f3).go r1, r3⟩ ⟨y, vs, rfl, RepD.go f3.go r2, r4⟩
theorem keys_rep {A : List Addr} {M : Addr → Prop} {H : Hp} : ∀ {ks : List D} {q : List Key} {us : List V}, keysD ks = some q → RepL K A M H us ks → us = q.map kV
  | [], q, us, e, r => by cases e; exact r
  | d :: ks, q, us, e, r => by
    obtain ⟨v, us', rfl, hv, hr⟩ := r
    unfold keysD at e
    split at e
    · rename_i k q' e1 e2
      cases e
      rw [List.map_cons, ← keys_rep e2 hr, keyD_rep e1 hv]
    · cases e
theorem hasK_mem {ks : List Key} {k : Key} : hasK ks k = true ↔ k ∈ ks := by
  unfold hasK
  rw [List.any_eq_true]
  exact ⟨fun ⟨q, h, e⟩ => of_decide_eq_true e ▸ h, fun h => ⟨k, h, decide_eq_true rfl⟩⟩
def freshK : List Key → Bool
  | [] => true
  | k :: ks => !hasK ks k && freshK ks
theorem valV_fst {k : Key} {kvs : List (Key × V)} (h : k ∉ kvs.map (·.1)) : valV kvs k = none := by
  unfold valV
  rw [Option.map_eq_none_iff, List.find?_eq_none]
  intro p hp e
  exact h (of_decide_eq_true e ▸ List.mem_map_of_mem hp)
theorem mergeK_new : ∀ (kvs acc : List (Key × V)), freshK (kvs.map (·.1)) = true → (∀ k ∈ kvs.map (·.1), k ∉ acc.map (·.1)) → mergeK acc kvs = acc ++ kvs
  | [], acc, _, _ => by simp [mergeK]
  | p :: kvs, acc, h, h2 => by
    have h : (!hasK (kvs.map (·.1)) p.1 && freshK (kvs.map (·.1))) = true := h
    rw [Bool.and_eq_true] at h
    have hp : p.1 ∉ acc.map (·.1) := h2 p.1 (by simp)
    show mergeK (putK acc p.1 p.2) kvs = _
    rw [putK_new p.2 (valV_fst hp), mergeK_new kvs (acc ++ [(p.1, p.2)]) h.2 fun k hk z => ?_]
    · simp
    · rw [List.map_append, List.mem_append] at z
      rcases z with z | z
      · exact h2 k (List.mem_cons_of_mem _ hk) z
      · have z : k = p.1 := by simpa using z
        have h1 : hasK (kvs.map (·.1)) p.1 = true := hasK_mem.mpr (z ▸ hk)
        rw [h1] at h
        exact absurd h.1 (by decide)
theorem zip_kv : ∀ (q : List Key) (vs : List V), (q.zip vs).map (fun kv => (kV kv.1, kv.2)) = (q.map kV).zip vs
  | [], _ => rfl
  | _ :: _, [] => rfl
  | k :: q, v :: vs => by rw [List.zip_cons_cons, List.map_cons, List.map_cons, List.zip_cons_cons, zip_kv q vs]
def mDisp (ps : List (Mo D × Mo D)) : Mo (List D × List D) := fun env μ => (mPairs ps env μ).bind fun r μ1 => match keysD r.1 with
  | some q => if freshK q = true ∧ r.1.length = r.2.length ∧ r.1.length ≤ 15 then .ok r μ1 else .no
  | none => .no
theorem k_disp {trs : List (TE × TE)} {mps : List (Mo D × Mo D)} (h : EvP2 K trs mps) : EvK K (tDisp trs) (mDisp mps) := fun A M μ H σ env r μ' ok en e Q f => by
  obtain ⟨r', μ1, e1, e⟩ := Rs.bind_ok e
  split at e
  · rename_i q hq
    split at e
    · rename_i hc
      cases e
      intro p hp
      obtain ⟨ok1, g1⟩ := ok.openM (o := .dK []) hp fun q z => by unfold LamX.CodeO at z; cases z
      have hpA := ok.fresh hp
      refine h A (MP M p) μ _ σ env _ _ ok1 (en.go g1) e1 _ fun us vs H2 A2 f2 ok2 r1 r2 => ?_
      have hlen : vs.length = q.length := by rw [r2.len, ← hc.2.1, keysD_len hq]
      have hu := keys_rep hq r1
      have h2p : H2 p = some (.dK []) := f2.pr p _ (fun z => hpA (.inl z)) upd_same
      have ez : (q.zip vs).map (fun kv => (kV kv.1, kv.2)) = us.zip vs := by
        rw [hu]
        exact zip_kv q vs
      have ef : (q.zip vs).map (·.1) = q := by
        rw [List.map_fst_zip]
        omega
      have em : mergeK [] (q.zip vs) = q.zip vs := by
        rw [mergeK_new _ [] (by rw [ef]; exact hc.1) fun k _ z => nomatch z]
        rfl
      refine ⟨h2p, q.zip vs, ez.symm, ?_, ?_⟩
      · rw [List.length_zip, keysD_len hq]
        have := hc.2.2
        omega
      · rw [em]
        have hM : MP M p p := .inr rfl
        have ok3 := ok2.updM (o := .dK (q.zip vs)) hM fun q z => by unfold LamX.CodeO at z; cases z
        refine f p vs _ A2 ⟨f2.pre, fun a ha => ?_, fun a o ha e => ?_⟩ ok3 ?_ hp (by rw [hlen, keysD_len hq]) (by unfold keysOk; rw [hq]; rfl) (RepL.go (go_updM hM) r2)
        · rcases f2.new a ha with z | z
          · exact .inl z
          · by_cases y : a = p
            · rw [y]; exact .inr hp
            · rw [upd_ne y] at z; exact .inr z
        · have ne : a ≠ p := fun z => by rw [z, hp] at e; cases e
          rw [upd_ne ne]
          exact f2.pr a o ha (by rw [upd_ne ne]; exact e)
        · rw [upd_same]
          unfold dicO
          rw [hq]
          rfl
    · cases e
  · cases e
end
end My
namespace My
open PySem PySem.Spec PyProof.Rows L2
end My
namespace My
open PySem PySem.Spec PyProof.Rows L2
section
variable {K : PySem.W.Frag} {A : List Addr} {M : Addr → Prop} {H H' : Hp} {p : Addr} {kvs : List (Key × V)}
mutual
theorem RepD.lk (l : LkS A M p kvs H H') : ∀ {d : D} {v : V}, RepD K A M H v d → RepD K A M H' v d
  | .non, _, h => h
  | .bl _, _, h => h
  | .int _, _, h => h
  | .str _, _, h => h
  | .ty _, _, h => h
  | .tup _, _, ⟨q, vs, e, h, r⟩ => ⟨q, vs, e, h.imp (fun h => ⟨l.rd h.1 fun _ _ z => (nomatch z), h.2⟩) id, RepL.lk l r⟩
  | .lst _, _, ⟨q, vs, e, h, r⟩ => ⟨q, vs, e, ⟨l.ne h.1 (fun _ z => (nomatch z)) fun _ _ z => (nomatch z), h.2⟩, RepL.lk l r⟩
  | .wl _, _, ⟨q, vs, e, h, r⟩ => ⟨q, vs, e, h.imp (fun h => ⟨l.rd h.1 fun _ _ z => (nomatch z), h.2⟩) id, RepL.lk l r⟩
  | .ref _, _, h => h
  | .cls _, _, h => h
  | .obj _ _ _, _, ⟨q, x, vs, e, h, n, r⟩ => ⟨q, x, vs, e, ⟨l.ne h.1 (fun _ z => (nomatch z)) fun _ _ z => (nomatch z), h.2⟩, n, RepL.lk l r⟩
  | .dic false _ _, _, ⟨q, vs, e, h, n, r⟩ => ⟨q, vs, e, ⟨⟨l.rd h.1.1 fun _ _ z => (by unfold dicO at z; cases z), fun z => (nomatch z)⟩, h.2⟩, n, RepL.lk l r⟩
  | .dic true _ _, _, ⟨q, vs, e, h, n, r⟩ => ⟨q, vs, e, ⟨⟨l.rd h.1.1 fun _ _ z => (by unfold dicO at z; cases z), fun _ => l.ne (h.1.2 rfl) (fun _ z => by unfold dicO at z; cases z) fun _ _ z => (by unfold dicO at z; cases z)⟩, h.2⟩, n, RepL.lk l r⟩
  | .err _ _ _, _, ⟨q, od, vs, e, h, hq, l0, n, r⟩ => ⟨q, od, vs, e, ⟨l.ne h.1 (fun _ z => (nomatch z)) fun _ _ z => (nomatch z), h.2⟩, fun b z => ⟨l.ne (hq b z).1 (fun _ z => (nomatch z)) fun _ _ z => (nomatch z), (hq b z).2⟩, l0, n, RepL.lk l r⟩
  | .fn _ _ _ _ _ _, _, ⟨e, h, vs, s, r⟩ => ⟨e, ⟨l.ne h.1 (fun _ z => (nomatch z)) fun _ _ z => (nomatch z), h.2⟩, vs, s, RepL.lk l r⟩
  | .any, _, h => h
theorem RepL.lk (l : LkS A M p kvs H H') : ∀ {ds : List D} {vs : List V}, RepL K A M H vs ds → RepL K A M H' vs ds
  | [], _, h => h
  | _ :: _, _, ⟨v, r, e, h, t⟩ => ⟨v, r, e, RepD.lk l h, RepL.lk l t⟩
end
theorem RepO.lk (l : LkS A M p kvs H H') {x : Option V} {y : Option D} (h : RepO K A M H x y) : RepO K A M H' x y := by
  cases x <;> cases y <;> first | exact h | exact RepD.lk l h | cases h
theorem EnvRep.lk (l : LkS A M p kvs H H') {σ : L2.St} {env : En} (h : EnvRep K A M H σ env) : EnvRep K A M H' σ env := Paired_imp (fun _ _ z => RepO.lk l z) h
theorem Ok.lk {μ : Store} (l : LkS A M p kvs H H') (h : Ok K A M μ H) : Ok K A M μ H' := by
  have np : ∀ a ∈ A, a ≠ p := fun a ha z => l.no (.inl (z ▸ ha))
  refine ⟨h.nd, h.len, fun k a c h1 h2 => ?_, fun a m => ?_, h.dis, fun a m q z => ?_⟩
  · have ha := np a (List.mem_of_getElem? h1)
    rcases h.rep k a c h1 h2 with ⟨y, q, e, ea, ps, t1, t2, t3⟩ | ⟨x, vs, e1, e2, e3⟩
    · refine .inl ⟨y, q, e, ea, ps, by rw [l.same a ha]; exact t1, t2, fun pos cv hh => ?_⟩
      obtain ⟨c, z1, z2⟩ := t3 pos cv hh
      exact ⟨c, z1, l.ne z2 (fun _ z => by unfold LamX.CodeO at z; cases z) fun _ _ z => by unfold LamX.CodeO at z; cases z⟩
    · exact .inr ⟨x, vs, by rw [l.same a ha]; exact e1, RepL.lk l e2, e3⟩
  · have ha : a ≠ p := fun z => l.no (.inr (z ▸ m))
    rw [l.same a ha]; exact h.al a m
  · have ha : a ≠ p := fun z => l.no (.inr (z ▸ m))
    rw [l.same a ha] at z; exact h.nc a m q z
theorem LkS.lock {od : Obj} (h : H p = some (.dK kvs)) (no : ¬ AM A M p) : LkS A M p kvs H (upd H p (.frz od (.dK kvs))) := ⟨.inl h, .inr ⟨od, upd_same⟩, no, fun a ha => upd_ne ha⟩
theorem LkS.unlock {od : Obj} (h : H p = some (.frz od (.dK kvs))) (no : ¬ AM A M p) : LkS A M p kvs H (upd H p (.dK kvs)) := ⟨.inr ⟨od, h⟩, .inl upd_same, no, fun a ha => upd_ne ha⟩
end
end My
namespace My
open PySem PySem.Spec PyProof.Rows L2
/-- t, with a dict locked or as the heap stands -/
def tLkE (t : TE) : TE := fun σ H Q => tLockE t σ H Q ∨ t σ H Q
theorem pe_lkE {X : Cx} {e : Expr} {t : TE} (h : PE X e t) : PE X e (tLkE t) := PE_or (pe_lock h) h
/-- the value is known ahead, whatever happens to dicts -/
def EvV (K : PySem.W.Frag) (td : TE) (md : Mo D) : Prop := ∀ (A : List Addr) (M : Addr → Prop) (μ : Store) (H : Hp) (σ : L2.St) (env : En) (d : D) (μ' : Store), Ok K A M μ H → EnvRep K A M H σ env → md env μ = .ok d μ' →
  μ' = μ ∧ ∃ v, RepD K A M H v d ∧ ∀ (H2 : Hp) (Q : VK), (∀ a o, H a = some o → (∀ k, o ≠ .dK k) → (∀ z k, o ≠ .frz z k) → H2 a = some o) → Q v H2 → td σ H2 Q
def mKeys (md : Mo D) : Mo (List D × Gd) := fun env μ => (md env μ).bind fun d μ1 => match d with
  | .dic false ks _ => .ok (ks, none) μ1
  | _ => .no
section
variable {K : PySem.W.Frag} {A : List Addr} {M : Addr → Prop} {H : Hp} {p : Addr}
theorem v_var (i : Nat) : EvV K (tVar i) (mVar i) := fun A M μ H σ env d μ' ok en e => by
  unfold mVar at e
  split at e
  · rename_i d' h
    cases e
    obtain ⟨v, h1, r⟩ := en.get h
    exact ⟨rfl, v, r, fun H2 Q _ q => ⟨v, h1, q⟩⟩
  · cases e
theorem v_fld {ct : CTab} {f : String} {ta : TE} {ma : Mo D} (G : ClsOk K ct) (h : EvV K ta ma) : EvV K (tFld K ta (f : Str)) (mFld ct f ma) := fun A M μ H σ env d μ' ok en e => by
  obtain ⟨x, μ1, e1, e2⟩ := Rs.bind_ok e
  split at e2
  · rename_i c ns ds hc
    split at e2
    · rename_i hn
      obtain ⟨e3, rfl⟩ := Rs.of_ok e2
      obtain ⟨rfl, v, r1, hq⟩ := h A M μ H σ env x _ ok en e1
      obtain ⟨a, y, vs, rfl, h1, hl, r2⟩ := clsOf_rep ok r1 hc
      obtain ⟨u, h3, h4⟩ := getF_rep r2 e3
      refine ⟨rfl, u, h4, fun H2 Q ag q => hq H2 _ ag ?_⟩
      exact ⟨a, _, y, _, u, rfl, ag _ _ h1 (fun _ z => (nomatch z)) (fun _ _ z => (nomatch z)), G.cls c (by simpa using hn.1), G.noat c (by simpa using hn.1) f (by simpa using hn.2), h3, q⟩
    · cases e2
  · cases e2
theorem keyD_of {d : D} {k : Key} (e : keyD d = some k) : RepD K A M H (kV k) d := by
  unfold keyD at e
  split at e
  · cases e; rfl
  · cases e; rfl
  · cases e
theorem keysD_get : ∀ {ks : List D} {q : List Key} {i : Nat} {d : D}, keysD ks = some q → ks[i]? = some d → ∃ k, q[i]? = some k ∧ keyD d = some k
  | [], _, _, _, _, h => by simp at h
  | x :: ks, q, i, d, e, h => by
    unfold keysD at e
    split at e
    · rename_i k q' e1 e2
      cases e
      cases i with
      | zero => cases h; exact ⟨k, rfl, e1⟩
      | succ i =>
        obtain ⟨k2, z1, z2⟩ := keysD_get (q := q') (i := i) e2 (by simpa using h)
        exact ⟨k2, by simpa using z1, z2⟩
    · cases e
theorem it_keys {od : Obj} {ks : List D} {q : List Key} {vs : List V} (hq : keysD ks = some q) (hl : q.length = vs.length) (h : H p = some (.frz od (.dK (q.zip vs)))) (no : ¬ AM A M p) : ItOkD K (Itk p od (q.zip vs)) ks none A M H := by
  have hz : (q.zip vs).length = ks.length := by rw [List.length_zip, keysD_len hq] at *; omega
  have st : ∀ {A' : List Addr} {H' : Hp}, Fut A H A' H' → H' p = some (.frz od (.dK (q.zip vs))) := fun fu => fu.pr p _ (fun z => no (.inl z)) h
  refine ⟨fun i A' M' μ' H' hm fu ok _ hi => ⟨st fu, by omega⟩, fun i A' M' μ' H' x H'' d hm fu ok _ hi hy => ?_, fun A' M' μ' H' hm fu ok _ => ⟨st fu, by omega⟩⟩
  obtain ⟨rfl, k, v, hk, rfl⟩ := hy
  obtain ⟨k', h1, h2⟩ := keysD_get hq hi
  have e : (q.zip vs)[i]? = some (k, v) := hk
  rw [List.getElem?_zip_eq_some] at e
  have : k' = k := by rw [h1] at e; exact Option.some.inj e.1
  subst this
  exact ⟨Evl.Ex.refl _, keyD_of h2⟩
theorem c_lcKeys {td : TE} {md : Mo D} {tt : TT} {mt : Mo Bool} {te : TE} {m : Mo D} {g : TG} {js vs : List Nat} {tg : Tg} (hd : EvV K td md) (hg : GD K g js tg) (hjs : ∀ j ∈ js, j ∈ vs) (ht : EvB K tt mt) (he : EvD K te m) :
    EvC K (tLkE (tLc (iKeys td) g tt te vs)) (mLc (mKeys md) tg mt m vs) := fun A M μ H σ env ds μ' ok en e Q f => by
  obtain ⟨⟨items, gd⟩, μ1, e1, e2⟩ := Rs.bind_ok e
  split at e2
  · rename_i hlen
    dsimp only at e2 hlen
    unfold mKeys at e1
    obtain ⟨d, μ2, e3, e4⟩ := Rs.bind_ok e1
    split at e4
    · rename_i ks xs
      cases e4
      obtain ⟨rfl, v, hv, hq⟩ := hd A M _ H σ env _ _ ok en e3
      obtain ⟨p, us, rfl, hp, ⟨hl, hk⟩, rr⟩ := hv
      obtain ⟨q, hks⟩ : ∃ q, keysD items = some q := Option.isSome_iff_exists.mp hk
      have hql : q.length = us.length := (keysD_len hks).trans hl
      have hrd : Rd H p (.dK (q.zip us)) := by
        have h := hp.1.1
        unfold dicO at h
        rw [hks] at h
        exact h
      have run : ∀ {od : Obj} {H1 : Hp} {Q1 : VK}, H1 p = some (.frz od (.dK (q.zip us))) → Ok K A M _ H1 → EnvRep K A M H1 σ env → (∀ a o, H a = some o → (∀ k, o ≠ .dK k) → (∀ z k, o ≠ .frz z k) → H1 a = some o) →
          (∀ pl vl H' A', Fut A H1 A' H' → Ok K A' (MP M pl) μ' H' → H' pl = some (.lst vl) → H1 pl = none → RepL K A' (MP M pl) H' vl ds → Q1 (.ref pl) H') → tLc (iKeys td) g tt te vs σ H1 Q1 := fun {od H1 Q1} h1 ok1 en1 ag f1 =>
        c_lc_at (fun R hR => hq _ _ ag ⟨p, od, rfl, .inl ⟨_, h1, hR _ H1 A .refl ok1 (it_keys hks hql h1 hp.2)⟩⟩) hg hjs ht he ok1 en1 hlen e2 f1
      rcases hrd with h | ⟨od, h⟩
      · refine .inl ⟨p, _, h, trivial, fun od => ?_⟩
        have l : LkS A M p (q.zip us) H (upd H p (.frz od (.dK (q.zip us)))) := LkS.lock h hp.2
        refine run upd_same (ok.lk l) (en.lk l) (fun a o ha n1 n2 => l.ne ha n1 n2) fun pl vl H' A' fu ok' hpl hpn rl => ?_
        have hlk : H' p = some (.frz od (.dK (q.zip us))) := fu.pr p _ (fun z => hp.2 (.inl z)) upd_same
        have np : pl ≠ p := fun z => by rw [z, upd_same] at hpn; cases hpn
        have no' : ¬ AM A' (MP M pl) p := fun z => by
          rcases z with z | z | z
          · rcases fu.new p z with z | z
            · exact hp.2 (.inl z)
            · rw [upd_same] at z; cases z
          · exact hp.2 (.inr z)
          · exact np z.symm
        have l2 : LkS A' (MP M pl) p (q.zip us) H' (upd H' p (.dK (q.zip us))) := LkS.unlock hlk no'
        refine ⟨hlk, f pl vl _ A' ⟨fu.pre, fun a ha => ?_, fun a o ha ho => ?_⟩ (ok'.lk l2) (by rw [upd_ne np]; exact hpl) (by rw [upd_ne np] at hpn; exact hpn) (RepL.lk l2 rl)⟩
        · rcases fu.new a ha with z | z
          · exact .inl z
          · by_cases y : a = p
            · rw [y, upd_same] at z; cases z
            · rw [upd_ne y] at z; exact .inr z
        · by_cases y : a = p
          · rw [y] at ho ⊢
            rw [upd_same, ← h, ho]
          · rw [upd_ne y]
            exact fu.pr a o ha (by rw [upd_ne y]; exact ho)
      · exact .inr (run h ok en (fun a o ha _ _ => ha) f)
    · cases e4
  · cases e2
end
end My
namespace My
open PySem PySem.Spec PyProof.Rows L2 PySem.W PySem.Calls NdefX
end My
namespace My
open PySem PySem.Spec PyProof.Rows L2
section
variable {X : Cx} {CX : CXT} {k : Nat} {f C : Addr} {sp : Sp} {x : Str} {e : Expr} {es : List Expr} {te tf : TE} {t : TA} {p sp_ pos : Pos}
/-- C(..), the arguments by t -/
def tMakeA (C : Addr) (sp : Sp) (E : L2.St → XK) (tf : TE) (t : TA) : TE := fun σ H Q => tf σ H fun c H0 => c = .ref C ∧ t σ H0 fun vs H1 => ∀ x dx, H1 x = Option.none → H1 dx = Option.none → dx ≠ x →
  sp (V.ref x :: vs) (upd (upd H1 dx (.own x)) x (.ins C dx [])) (fun v H2 => v = .non ∧ Q (.ref x) H2) (E σ)
end
end My
namespace My
open PySem PySem.Spec PyProof.Rows L2
theorem FlyingZ.kept {base h h' : Heap} {l : List Env} {e : Addr} {Z : Obj → Prop} (x : HandSPX.FlyingZ base l e Z h) (k : ∀ b o, h.get? b = some o → h'.get? b = some o) : HandSPX.FlyingZ base l e Z h' := by
  obtain ⟨k1, k2, k3, oe, vs, T, oT, ts, he, hz, hd, h1, hnT, hTe, hT, hdT, h3⟩ := x
  exact ⟨fun b o z => k b o (k1 b o z), k2, Heap.FunFrames.of_keeps (fun b o z _ => ⟨o, k b o z, rfl⟩) k3, oe, vs, T, oT, ts, k _ _ he, hz, hd, h1, hnT, hTe, k _ _ hT, hdT, h3⟩
end My
namespace My
open PySem PySem.Spec PyProof.Rows L2
def EvZG {α β : Type} (K : PySem.W.Frag) (W : WX) (run : L2.St → Hp → (β → Hp → Prop) → Prop) (m : Mo α) : Prop := ∀ (A : List Addr) (M : Addr → Prop) (μ : Store) (H : Hp) (σ : L2.St) (env : En) (c : String) (ns : List String) (xs : List D) (μ' : Store), Ok K A M μ H → EnvRep K A M H σ env → m env μ = .rz c ns xs μ' →
  (∀ H' A' cls od, Fut A H A' H' → Ok K A' M μ' H' → RepX K A' M H' c ns xs cls od → W cls od σ H') → ∀ Q, run σ H Q
structure EvSX (K : PySem.W.Frag) (W : WX) (ta : TA) (m : Mo (List D)) : Prop where
  ok : EvS K ta m
  rz : EvZG K W ta m
def mNrG {α : Type} (m : Mo α) : Mo α := fun env μ => (m env μ).nr
section
variable {K : PySem.W.Frag} {A A' : List Addr} {M : Addr → Prop} {μ μ' : Store} {H H' : Hp} {v w : V} {d : D} {xs ds : List D} {k : Nat} {te ta tb tf : TE} {m ma mb mf : Mo D} {tas tks : TA} {mas mks cm : Mo (List D)} {W : WX} {Wo : Option WX} {c : String} {ct : CTab} {t1 : TS} {s1 : MS}
theorem xs_nr (h : EvS K tas mas) : EvSX K W tas (mNrG mas) := ⟨fun A M μ H σ env d μ' ok en e Q q => h A M μ H σ env d μ' ok en (Rs.nr_ok e) Q q, fun A M μ H σ env c ns xs μ' ok en e => (Rs.nr_rz e).elim⟩
def mAppX (o e : Mo D) : Mo D := fun env μ => (o env μ).nr.bind fun x μ0 => match x with
  | .ref k => if (cellOf μ0 k).isSome = true then (e env μ0).bind fun y μ1 => match cellOf μ1 k with
    | some ds => if pureD y = true ∧ ds.length < 100000 then .ok .non (μ1.set k (.lst (ds ++ [y]))) else .no
    | none => .no else .no
  | _ => .no
theorem x_appX (h : EvD K ta ma) (h2 : EvX K W tb mb) : EvX K W (tBM K "list" rAppend ta (tCons tb tNil)) (mAppX ma mb) := by
  refine ⟨fun A M μ H σ env d μ' ok en e Q q => d_app h h2.ok A M μ H σ env d μ' ok en ?_ Q q, fun A M μ H σ env c ns xs μ' ok en e q Q => ?_⟩
  · obtain ⟨x, μ0, e1, e⟩ := Rs.bind_ok e
    unfold mApp
    rw [Rs.nr_ok e1]
    exact e
  · obtain ⟨x, μ0, e1, e⟩ := Rs.nr_bind_rz e
    split at e
    · rename_i k
      split at e
      rotate_left
      · cases e
      rename_i hcs
      obtain ⟨ds0, hc0⟩ := Option.isSome_iff_exists.mp hcs
      refine h A M μ H σ env _ μ0 ok en e1 _ fun v H1 A1 f1 ok1 r1 => ?_
      obtain ⟨a, rfl, ha⟩ := r1
      refine ⟨tyV_cell ok1 ha hc0, ?_⟩
      rcases Rs.bind_rz e with e | ⟨y, μ1, e2, e⟩
      · exact h2.rz A1 M μ0 H1 σ env c ns xs μ' ok1 (en.go f1.go) e (fun H' A' cls od f' => q H' A' cls od (f1.trans f')) _
      · split at e
        · split at e <;> cases e
        · cases e
    · cases e
def mMakeA (live : Bool) (c : String) (init : List D → Store → Rs D) (fm : Mo D) (a : Mo (List D)) : Mo D := fun env μ => (fm env μ).nr.bind fun x μ0 => match x with
  | .cls c' => if c' = c then (a env μ0).bind fun ds μ1 => (match init (.ref μ1.length :: ds) (μ1 ++ [.obj c [] []]) with
    | .ok .non μ2 => if live = true then .ok (.ref μ1.length) μ2 else (match μ2[μ1.length]? with
      | some cell => .ok (frzC cell) (μ2.take μ1.length)
      | none => .no)
    | .rz c2 ns xs μ2 => if undL μ1.length xs = true then .rz c2 ns xs (μ2.take μ1.length) else .no
    | _ => .no) else .no
  | _ => .no
theorem x_makeA {live : Bool} {init : List D → Store → Rs D} {sp : Sp} (hsp : ∀ vs H Q E, modSpX K init vs H Q E → sp vs H Q E) (h0 : EvD K tf mf) (h : EvSX K W tas mas) : EvX K W (tMakeA (He.ga K c) sp (WE W) tf tas) (mMakeA live c init mf mas) := by
  refine ⟨fun A M μ H σ env d μ' ok en e Q q => ?_, fun A M μ H σ env c2 ns xs μ' ok en e q Q => ?_⟩
  · obtain ⟨x, μ0, e0, e⟩ := Rs.bind_ok e
    split at e
    · rename_i c'
      split at e
      · rename_i hc
        subst hc
        obtain ⟨ds, μ1, e1, e⟩ := Rs.bind_ok e
        refine h0 A M μ H σ env _ μ0 ok en (Rs.nr_ok e0) _ fun v H0 A0 f0 ok0 r0 => ⟨r0, ?_⟩
        refine h.ok A0 M μ0 H0 σ env ds μ1 ok0 (en.go f0.go) e1 _ fun vs H1 A1 f1 ok1 r1 y dy hy hdy hne => ?_
        have ok3 := ok1.new (o := .own y) hdy
        have fd : Fut A1 H1 A1 (upd H1 dy (.own y)) := .newO hdy
        have hy2 : upd H1 dy (.own y) y = none := by rw [upd_ne (fun z => hne z.symm)]; exact hy
        obtain ⟨ok4, f4⟩ := ok3.cellNew (x := dy) (vs := []) (c := .obj c' [] []) hy2 rfl rfl rfl
        have f24 := fd.trans f4
        have hlen : A1.length = μ1.length := ok1.len
        have rx : RepL K (A1 ++ [y]) M (upd (upd H1 dy (.own y)) y (.ins (He.ga K c') dy [])) (V.ref y :: vs) (.ref μ1.length :: ds) := ⟨_, _, rfl, ⟨y, rfl, by rw [← hlen]; simp⟩, RepL.go f24.go r1⟩
        have f02 := f0.trans f1
        split at e
        · rename_i μ3 e5
          refine hsp _ _ _ _ (.inl ⟨A1 ++ [y], M, μ1 ++ [.obj c' [] []], _, .non, μ3, ok4, rx, e5, fun v5 H5 A5 f5 ok5 r5 => ⟨r5, ?_⟩⟩)
          have fAll : Fut A H A5 H5 := f02.trans (f24.trans f5)
          obtain ⟨B, hB⟩ := f5.pre
          split at e
          · cases e
            refine q _ H5 A5 fAll ok5 ⟨y, rfl, ?_⟩
            rw [hB, ← hlen]
            simp
          · split at e
            · rename_i cell hcell
              cases e
              have hyA : A5[μ1.length]? = some y := by
                rw [hB, ← hlen]
                simp
              subst hB
              have ok6 : Ok K (A1 ++ ([y] ++ B)) M μ3 H5 := by rw [← List.append_assoc]; exact ok5
              have f6 : Fut A H A1 H5 := ⟨f02.pre, f02.new, fun a o ha ho => fAll.pr a o ha ho⟩
              refine q _ H5 A1 f6 (by rw [← hlen]; exact ok6.cellDrop) (frz_rep (ok5.rep μ1.length y cell hyA hcell) (fun z => ?_) (fun h3 h2 => ?_))
              · rcases z with z | z
                · exact (List.nodup_append.mp ok6.nd).2.2 y z y (by simp) rfl
                · exact ok5.dis y (List.mem_of_getElem? hyA) z
              · exact RepL.low (B := [y] ++ B) (undL_of_pure _ h3) (by rw [← List.append_assoc]; exact h2)
            · cases e
        · split at e <;> cases e
        · cases e
      · cases e
    · cases e
  · obtain ⟨x, μ0, e1, e⟩ := Rs.nr_bind_rz e
    split at e
    · rename_i c'
      split at e
      · rename_i hc
        subst hc
        refine h0 A M μ H σ env _ μ0 ok en e1 _ fun v H0 A0 f0 ok0 r0 => ⟨r0, ?_⟩
        rcases Rs.bind_rz e with e | ⟨ds, μ1, e2, e⟩
        · exact h.rz A0 M μ0 H0 σ env c2 ns xs μ' ok0 (en.go f0.go) e (fun H' A' cls od f' => q H' A' cls od (f0.trans f')) _
        refine h.ok A0 M μ0 H0 σ env ds μ1 ok0 (en.go f0.go) e2 _ fun vs H1 A1 f1 ok1 r1 y dy hy hdy hne => ?_
        have ok3 := ok1.new (o := .own y) hdy
        have fd : Fut A1 H1 A1 (upd H1 dy (.own y)) := .newO hdy
        have hy2 : upd H1 dy (.own y) y = none := by rw [upd_ne (fun z => hne z.symm)]; exact hy
        obtain ⟨ok4, f4⟩ := ok3.cellNew (x := dy) (vs := []) (c := .obj c' [] []) hy2 rfl rfl rfl
        have f24 := fd.trans f4
        have hlen : A1.length = μ1.length := ok1.len
        have rx : RepL K (A1 ++ [y]) M (upd (upd H1 dy (.own y)) y (.ins (He.ga K c') dy [])) (V.ref y :: vs) (.ref μ1.length :: ds) := ⟨_, _, rfl, ⟨y, rfl, by rw [← hlen]; simp⟩, RepL.go f24.go r1⟩
        split at e
        · split at e
          · cases e
          · split at e <;> cases e
        · rename_i e5 ns5 xs5 μ3 ei
          split at e
          · rename_i hu
            cases e
            refine hsp _ _ _ _ (.inr ⟨A1 ++ [y], M, μ1 ++ [.obj c' [] []], _, _, _, _, _, ok4, rx, ei, fun H5 A5 cls od f5 ok5 rx5 => ?_⟩)
            obtain ⟨B, rfl⟩ := f5.pre
            have fAll := (f0.trans f1).trans (f24.trans f5)
            have ok6 : Ok K (A1 ++ ([y] ++ B)) M μ3 H5 := by rw [← List.append_assoc]; exact ok5
            have rx6 : RepX K (A1 ++ ([y] ++ B)) M H5 c2 ns xs cls od := by rw [← List.append_assoc]; exact rx5
            have f02 := f0.trans f1
            exact q H5 A1 cls od ⟨f02.pre, f02.new, fun a o ha ho => fAll.pr a o ha ho⟩ (by rw [← hlen]; exact ok6.cellDrop) (RepX.low (by rw [hlen]; exact hu) rx6)
          · cases e
        · cases e
      · cases e
    · cases e
end
end My
namespace My
open PySem PySem.Spec PyProof.Rows L2
/-- nothing is wished of an error -/
def W0 : WX := fun _ _ _ _ => False
def fnDX (np nl : Nat) (body : MS) : List D → Store → Rs D := fun ds μ => if ds.length = np then (match body (ds.map some ++ List.replicate nl none) μ with
  | .nx _ μ' => .ok .non (μ'.take μ.length)
  | .rt d μ' => finD μ.length d μ'
  | .rz c ns xs _ μ' => if undL μ.length xs = true then .rz c ns xs (μ'.take μ.length) else .no
  | _ => .no) else .no
theorem finD_rz {n : Nat} {d : D} {μ μ' : Store} {c : String} {ns : List String} {xs : List D} (h : finD n d μ = .rz c ns xs μ') : False := by
  unfold finD at h
  split at h
  · split at h
    · cases h
    · split at h <;> cases h
  · split at h <;> cases h
section
variable {P : Program} {w : World} {K : PySem.W.Frag} {mg : Str → Option Value} {base : Heap}
theorem run_DX {np nl : Nat} {N : List Str} {body : MS} {t : TS} {E : XK} {vs : List V} {H : Hp} {Q : VK} (hN : N.length = np + nl) (h : modSpX K (fnDX np nl body) vs H Q E) (hb : StD K (some fun cls d _ H => E cls d H) t body) : t { nx := fun _ H' => Q .non H', rt := Q } (start N vs) H := by
  rcases h with ⟨A0, M, μ, ds, d, μ', ok, r, e, q⟩ | ⟨A0, M, μ, ds, c, ns, xs, μ', ok, r, e, q⟩
  · unfold fnDX at e
    split at e
    · rename_i hl
      refine hb A0 M μ H _ _ _ ok (env_start r (by rw [hl]; exact hN)) ?_
      split at e
      · rename_i en2 μ2 eb
        cases e
        rw [eb]
        intro σ' H' A' f' ok' _
        obtain ⟨B, rfl⟩ := f'.pre
        exact q .non H' A0 ⟨⟨[], by simp⟩, fun a h => .inl h, f'.pr⟩ (by rw [← ok.len]; exact ok'.cellDrop) rfl
      · rename_i d2 μ2 eb
        rw [eb]
        intro v H' A' f' ok' r'
        obtain ⟨g1, g2, g3⟩ := fin_rep f' ok.len ok' r' e
        exact q v H' A0 g1 g2 g3
      · split at e <;> cases e
      · cases e
    · cases e
  · unfold fnDX at e
    split at e
    · rename_i hl
      refine hb A0 M μ H _ _ _ ok (env_start r (by rw [hl]; exact hN)) ?_
      split at e
      · cases e
      · exact (finD_rz e).elim
      · rename_i c2 ns2 xs2 en2 μ2 eb
        split at e
        · rename_i hu
          cases e
          rw [eb]
          intro σ' H' A' cls od f' ok' _ rx
          obtain ⟨B, rfl⟩ := f'.pre
          exact q H' A0 cls od ⟨⟨[], by simp⟩, fun a h => .inl h, f'.pr⟩ (by rw [← ok.len]; exact ok'.cellDrop) (RepX.low (by rw [ok.len]; exact hu) rx)
        · cases e
      · cases e
    · cases e
end
/-- called by position -/
theorem CalF.rawN {P : Program} {w : World} {K : PySem.W.Frag} {mg : Str → Option Value} {base : Heap} {CX : CXT} {k n : Nat} {a : Addr} {x q : Str} {st : Stmt} {kvs : List (Str × V)} {ps : List Str} {sp : Sp} (hn : n = ps.length) (hp : ∀ vs : List V, vs.length = n → perm (List.range n) vs = vs) (C : CalF P w K mg base CX k a x q st [] kvs ps sp) (hb : Bs K x q st [] kvs [] ps n [] (List.range n)) : FnR P w K mg base CX k a sp := by
  obtain ⟨fd, F, FD⟩ := C.ex
  obtain ⟨g, hb⟩ := hb a fd FD
  intro A outer s H us vs Q E hr e0 r hs
  have hl := F.len _ _ _ _ hs
  have r2 := hb.rel r .nil
  rw [List.append_nil, List.append_nil, hp vs (hl.trans hn.symm)] at r2
  exact F.run A outer s H ⟨us, []⟩ (g us []) vs Q E hr e0 (hb.to s us [] (e0.mod.kin.keeps fun b o e => (e0.bs b o e).1) (r.length.symm.trans (hl.trans hn.symm)) rfl) r2 hs
section
variable {K : PySem.W.Frag} {A A' : List Addr} {M : Addr → Prop} {μ μ' : Store} {H H' : Hp} {v w : V} {d : D} {xs ds : List D}
def rMaxU (K : PySem.W.Frag) : List V → Hp → VK → Prop := fun xs H Q => (∃ i j, xs = [V.int i, .int j] ∧ Q (.int (if j > i then j else i)) H) ∨ rMax K xs H Q
theorem call_maxU {X : Cx} {K : PySem.W.Frag} (hc : X.calm = true := by rfl) (hK : X.K = K := by rfl) : CallR X (.builtin "max") (rMaxU K) := by
  subst hK
  intro pins s σ H vs us Q I r h
  rcases h with h | h
  · exact call_max2 hc pins s σ H vs us Q I r h
  · exact cr_max hc pins s σ H vs us Q I r h
def maxI : Int → List Int → Int
  | a, [] => a
  | a, b :: r => maxI (if b > a then b else a) r
theorem maxI_ge : ∀ {l : List Int} {a : Int}, a ≤ maxI a l ∧ ∀ y ∈ l, y ≤ maxI a l
  | [], a => ⟨Int.le_refl _, fun y h => by cases h⟩
  | b :: r, a => by
    obtain ⟨h1, h2⟩ := maxI_ge (l := r) (a := if b > a then b else a)
    refine ⟨?_, fun y h => ?_⟩
    · refine Int.le_trans ?_ h1
      split <;> omega
    · rcases List.mem_cons.mp h with h | h
      · subst h
        refine Int.le_trans ?_ h1
        split <;> omega
      · exact h2 y h
theorem maxI_mem : ∀ {l : List Int} {a : Int}, maxI a l = a ∨ maxI a l ∈ l
  | [], a => .inl rfl
  | b :: r, a => by
    show maxI (if b > a then b else a) r = a ∨ _
    rcases maxI_mem (l := r) (a := if b > a then b else a) with h | h
    · rw [show maxI a (b :: r) = maxI (if b > a then b else a) r from rfl, h]
      split
      · exact .inr List.mem_cons_self
      · exact .inl rfl
    · exact .inr (List.mem_cons_of_mem _ h)
/-- the numbers of a list -/
def listI (μ : Store) (d : D) : Option (List Int) := match d with
  | .lst xs => intsOf xs
  | .ref k => (cellOf μ k).bind intsOf
  | _ => none
theorem listI_rep (ok : Ok K A M μ H) (r : RepD K A M H v d) {ns : List Int} (e : listI μ d = some ns) : ∃ p, v = .ref p ∧ SqL K H p (ns.map V.int) := by
  unfold listI at e
  split at e
  · obtain ⟨p, vs, rfl, h, r⟩ := r
    have := intsOf_rep r e
    subst this
    exact ⟨p, rfl, h.sq⟩
  · obtain ⟨a, rfl, ha⟩ := r
    obtain ⟨xs, e1, e2⟩ := Option.bind_eq_some_iff.mp e
    obtain ⟨vs, h1, h2, h3⟩ := cell_rep ok ha e1
    have := intsOf_rep h2 e2
    subst this
    exact ⟨a, rfl, .inl (.inl h1)⟩
  · cases e
def dMaxU (μ : Store) : List D → Option D
  | [.int i, .int j] => some (.int (if j > i then j else i))
  | [d] => match listI μ d with
    | some (a :: r) => some (.int (maxI a r))
    | _ => none
  | _ => none
theorem cd_maxU : CbD K (rMaxU K) dMaxU := fun A M μ H vs ds d ok r e Q f => by
  unfold dMaxU at e
  split at e
  · cases e
    obtain ⟨v1, r1, rfl, h1, v2, r2, rfl, h2, rfl⟩ := r
    exact .inl ⟨_, _, by rw [show v1 = _ from h1, show v2 = _ from h2], f _ H (Evl.Ex.refl _) rfl⟩
  · split at e
    · rename_i a l hl
      cases e
      obtain ⟨v1, r1, rfl, h1, rfl⟩ := r
      obtain ⟨p, rfl, hs⟩ := listI_rep ok h1 hl
      refine .inr ⟨p, a :: l, rfl, hs, Nat.succ_pos _, fun m hm hle => ?_⟩
      have e1 : m = maxI a l := by
        apply Int.le_antisymm
        · rcases List.mem_cons.mp hm with h | h
          · subst h; exact maxI_ge.1
          · exact maxI_ge.2 m h
        · rcases maxI_mem (l := l) (a := a) with h | h
          · rw [h]; exact hle a List.mem_cons_self
          · exact hle _ (List.mem_cons_of_mem _ h)
      rw [e1]
      exact f _ H (Evl.Ex.refl _) rfl
    · cases e
  · cases e
end
end My
namespace My
open PySem PySem.Spec PyProof.Rows L2
open AutoSeq1 (wpAny_loadPart') in
theorem meets_enumT (l : Addr) (items : Array Value) (n : Nat) (dct : Option Addr) (sl : Array (Option Value)) :
    Meets (Builtin.«enumerate.__new__» ⟨[.type "enumerate", .ref l], []⟩) (fun _ R s => s.heap.get? l = some { cls := .type "tuple", dict := dct, data := .seq items n, slots := sl } ∧
      R (.ok (.ret (.ref (s.heap.push { cls := .type "tuple_iterator", data := .fields #[.ref l, .int 0 0] }).objs.size)))
        { s with heap := (s.heap.push { cls := .type "tuple_iterator", data := .fields #[.ref l, .int 0 0] }).push { cls := .type "enumerate", data := .fields #[.none, .bool false, .ref s.heap.objs.size, rawInt 0, .none, .none] } }) :=
  .of_wp fun prog w A R s h => by
    obtain ⟨hp, g, d, tk, os⟩ := s; obtain ⟨hl, h⟩ := h
    have hsub := sub_enumerate
    have hL : Heap.IsTuple (Shared.heap ⟨hp, g, d, tk, os⟩) l items := ⟨_, hl, rfl, n, rfl⟩
    wp_walk using wpAny_loadPart' hl
    refine wpAny_stack_any fun st => wpAny_pure ?_
    split
    · rename_i c _ _ _ _ _
      cases (c == Value.type "enumerate")
      · wp_walk using wpAny_loadPart' hl, wpAny_pyIter_tuple hL
        exact ⟨_, rfl, h⟩
      · wp_walk using wpAny_loadPart' hl, wpAny_pyIter_tuple hL
        exact ⟨_, rfl, h⟩
    · wp_walk using wpAny_loadPart' hl, wpAny_pyIter_tuple hL
      exact ⟨_, rfl, h⟩
theorem call_enumT {prog : Program} {w : World} {A : Around} {E : Value → Shared → Prop} {s : Shared} {l : Addr} {items : Array Value} {Q : Value → Shared → Prop} (hL : s.heap.IsTuple l items)
    (h : ∀ h', IsEnum h' (s.heap.objs.size + 1) s.heap.objs.size 0 .none → h'.IsTupleIter s.heap.objs.size l 0 → (∀ b o, s.heap.get? b = some o → h'.get? b = some o) → Q (.ref (s.heap.objs.size + 1)) { s with heap := h' }) :
    wpAny (model prog w) A (call (.type "enumerate") [.ref l]) Q E s := by
  obtain ⟨⟨c, dct, dt, sl⟩, hl, hc, n, hd⟩ := hL
  replace hc : c = .type "tuple" := hc
  replace hd : dt = .seq items n := hd
  subst hc hd
  refine callType_new F.called_enumerate (by decide) (F.typeCall_enumerate_1 _) (F.newCall_enumerate_1 _) (fun obj => F.args_object_init_2 obj _) F.entry_enumerate_new
    (meets_enumT l items n dct sl) ⟨hl, ?_⟩
  have hz : (s.heap.push { cls := .type "tuple_iterator", data := .fields #[.ref l, .int 0 0] }).objs.size = s.heap.objs.size + 1 := Heap.size_push ..
  show _ ∧ _
  rw [hz]
  have he : IsEnum ((s.heap.push { cls := .type "tuple_iterator", data := .fields #[.ref l, .int 0 0] }).push
      { cls := .type "enumerate", data := .fields #[.none, .bool false, .ref s.heap.objs.size, rawInt 0, .none, .none] }) (s.heap.objs.size + 1) s.heap.objs.size 0 .none := by
    have := Heap.get?_push_size (s.heap.push { cls := .type "tuple_iterator", data := .fields #[.ref l, .int 0 0] })
      (o := { cls := .type "enumerate", data := .fields #[.none, .bool false, .ref s.heap.objs.size, rawInt 0, .none, .none] }) rfl
    rw [hz] at this; exact this
  exact ⟨⟨_, he, rfl⟩, h _ he ⟨_, Heap.get?_push_of_some _ (Heap.get?_push_size _ rfl), rfl, rfl⟩ fun b o x => Heap.get?_push_of_some _ (Heap.get?_push_of_some _ x)⟩
def IteT (K : PySem.W.Frag) (a : Addr) : It :=
  ⟨fun i H => ∃ (xs : List V) (x : V), SqT K H a xs ∧ xs[i]? = some x, fun i H v H' => ∃ T x, v = .ref T ∧ H T = none ∧ H' = upd H T (.tup [.int (i : Nat), x]) ∧ ∀ xs, SqT K H a xs → xs[i]? = some x, fun i H => ∃ xs : List V, SqT K H a xs ∧ xs.length ≤ i⟩
theorem turn_enumT {P : Program} {w : World} {K : PySem.W.Frag} {elts : List Expr} {kk : Nat} {tpos : Pos} (a e it : Addr) :
    Turn P w K (.Tuple elts kk tpos) (IteT K a) [e, it] e (fun i h => (∃ old, IsEnum h e it ((i : Nat) : Int) old) ∧ h.IsTupleIter it a i ∧ e ≠ it) where
  mem := by simp
  obj := fun i h st b hb => by
    obtain ⟨⟨old, he⟩, ⟨o, ho, hc, hd⟩, _⟩ := st
    have e' : b = e ∨ b = it := by simpa using hb
    rcases e' with z | z
    · rw [z]; exact ⟨_, he, fun v q => nomatch q⟩
    · rw [z]; exact ⟨o, ho, fun v q => by rw [hd] at q; cases q⟩
  keep := fun i h h' st k => let ⟨⟨old, he⟩, hi, hne⟩ := st; ⟨⟨old, k e (by simp) _ he⟩, hi.at fun o q => k it (by simp) o q, hne⟩
  item := by
    intro X hP hw hK hc i pins s σ H E I hf st hg
    subst hP hw hK
    obtain ⟨⟨old, he⟩, hit, hne⟩ := st
    obtain ⟨xs, x, hq, hx⟩ := hg
    obtain ⟨its, rv, p, hz⟩ := I.tuple hq
    obtain ⟨u, hu, ru⟩ := rv.get hx
    have pT : s.heap.IsTuple a its.toArray := p
    have hel : e < s.heap.objs.size := Heap.lt_size he
    have hil : it < s.heap.objs.size := by obtain ⟨_, q, _⟩ := hit; exact Heap.lt_size q
    have hh : X.A.in1.handled = none := I.ok.hd hc
    have hai : a ≠ it := by
      rintro rfl
      obtain ⟨o1, h1, c1, _⟩ := pT
      obtain ⟨o2, h2, c2, _⟩ := hit
      rw [h1] at h2
      cases h2
      rw [c1] at c2
      injection c2 with z
      exact absurd z (by decide)
    have hae : e ≠ a := by
      rintro rfl
      obtain ⟨o1, h1, c1, _⟩ := pT
      rw [show s.heap.get? e = _ from he] at h1
      cases h1
      injection c1 with z
      exact absurd z (by decide)
    have hlt : i < its.toArray.size := by
      have := (List.getElem?_eq_some_iff.mp hu).1
      simpa using this
    refine wpAny_pyNext_enum_itemD (Draws.tuple hh it a hai its.toArray) he ⟨hit, pT⟩ hlt hne (by simp [hne, hae]) fun v h' tk hPx ho hst' hT hsz hk => ?_
    obtain rfl : v = u := by
      have hPx : its.toArray[i]? = some v := hPx
      rw [List.getElem?_toArray, hu] at hPx
      exact (Option.some.inj hPx).symm
    refine ⟨_, rfl, wpAny_letOwnedTupleGo_enum (s := { s with heap := h', toks := tk + 1 }) ho fun h'' he' sb => ?_⟩
    have hT2 : h''.get? s.heap.objs.size = some { cls := .type "tuple", data := .seq #[.int i tk, v] } := (sb.2 _ (Nat.ne_of_gt hel)).trans hT
    have new : ObjOk X.prog X.w (upd H s.heap.objs.size (.tup [.int (i : Nat), x])) h'' s.heap.objs.size (.tup [.int (i : Nat), x]) :=
      ⟨by show 2 ≤ sizeLine; decide, [.int i tk, v], .cons ⟨_, rfl⟩ (.cons ru .nil), ⟨_, hT2, rfl, _, rfl⟩⟩
    have I1 : Inv X pins σ (upd H s.heap.objs.size (.tup [.int (i : Nat), x])) { s with heap := h'', toks := tk + 1 } :=
      I.turnedNew (ch := [e, it]) (fun b ob hb q => (sb.2 b (fun z => hb (by simp [z]))).trans (hk b ob (fun z => hb (by simp [z])) (fun z => hb (by simp [z])) q)) hf (Nat.le_refl _) new
    refine ⟨.ref s.heap.objs.size, _, I1, rfl, ⟨_, x, rfl, I.hok.fresh (Nat.le_refl _), rfl, fun ys hy => by rw [I.tuple_inj hy hq]; exact hx⟩, ⟨⟨v, ?_⟩, hst'.1.at fun o q => (sb.2 it (Ne.symm hne)).trans q, hne⟩, fun b hb => ?_⟩
    · have e1 : ((i + 1 : Nat) : Int) = (i : Int) + 1 := by omega
      rw [e1]; exact he'
    · have hb' : b < s.heap.objs.size := by
        have e' : b = e ∨ b = it := by simpa using hb
        rcases e' with z | z
        · rw [z]; exact hel
        · rw [z]; exact hil
      rw [upd_ne (Nat.ne_of_lt hb')]
      exact (hf b hb).1
  done := by
    intro X hP hw hK hc i pins s σ H E I hf st hg
    subst hP hw hK
    obtain ⟨⟨old, he⟩, hit, hne⟩ := st
    obtain ⟨xs, hq, hx⟩ := hg
    obtain ⟨its, rv, p, hz⟩ := I.tuple hq
    have pT : s.heap.IsTuple a its.toArray := p
    obtain ⟨f0, f1, f2, f3, f4, f5⟩ := hf it (by simp)
    have hl := rv.length
    have hh : X.A.in1.handled = none := I.ok.hd hc
    have hai : a ≠ it := by
      rintro rfl
      obtain ⟨o1, h1, c1, _⟩ := pT
      obtain ⟨o2, h2, c2, _⟩ := hit
      rw [h1] at h2
      cases h2
      rw [c1] at c2
      injection c2 with z
      exact absurd z (by decide)
    have D : Draws X.prog X.w X.A.in1 it [it, a] its.toArray.size (fun i v => its.toArray[i]? = some v) (fun j h => (∃ k, h.IsTupleIter it a k ∧ (if j = its.toArray.size then its.toArray.size ≤ k else k = j)) ∧ h.IsTuple a its.toArray) := by
      refine ⟨fun _ _ st => let ⟨_, ⟨o, ho, _⟩, _⟩ := st.1; ⟨o, ho⟩, fun _ _ _ st hk => ?_, fun j s Q E hj st hQ => ?_, fun s Q E st hE => ?_⟩
      · obtain ⟨⟨k, h1, h2⟩, h3⟩ := st
        exact ⟨⟨k, h1.at fun o e => hk it (by simp) o e, h2⟩, h3.at fun o e => hk a (by simp) o e⟩
      · obtain ⟨⟨k, h1, h2⟩, h3⟩ := st
        rw [if_neg (Nat.ne_of_lt hj)] at h2
        subst h2
        refine wpAny_nextOf_tuple_item h1 h3 (x := its.toArray[k]) (by simp [hj]) fun h' hit' hs' => ?_
        refine hQ _ h' s.toks (by simp [hj]) ⟨⟨k + 1, hit', ?_⟩, h3.extBut hs'.extBut hai⟩ hs'
        split
        · omega
        · rfl
      · obtain ⟨⟨k, h1, h2⟩, h3⟩ := st
        rw [if_pos rfl] at h2
        exact wpAny_nextOf_tuple_end hh h1 h3 (Array.getElem?_eq_none h2) hE
    refine wpAny_pyNext_enum_endD (i := (i : Int)) D he ⟨⟨i, hit, ?_⟩, pT⟩ fun h' eb => ⟨rfl, I.turned (t' := s.toks) (fun b o hb q => eb b o hb q) f0 f1 f3 f4 f5⟩
    rw [if_pos rfl]
    simp
    omega
  self := fun A i s Q E st h => let ⟨⟨_, he⟩, _⟩ := st; wpAny_pyIter_enum he h
def iEnumT (K : PySem.W.Frag) (ta : TA) : TI := fun σ H R => ta σ H fun vs H1 => ∃ a xs, vs = [.ref a] ∧ SqT K H1 a xs ∧ R (IteT K a) H1
theorem pi_enumT {X : Cx} {e : Expr} {ta : TA} {p pos tpos : Pos} {elts : List Expr} {kk : Nat} (hg : Gl X "enumerate") (hm : X.mg "enumerate" = none) (ha : PA X [e] ta) (hs : starEach [e] X.env = [(false, eval e X.env)] := by rfl) :
    PI X (.Tuple elts kk tpos) (.Call (.Name "enumerate" p) [e] [] pos) (iEnumT X.K ta) := by
  refine ⟨fun pins s σ H R I h => ?_⟩
  refine Call_ (ld_blt I hg hm boot_enumerate (PyProof.Rows.callWith_type1 (thn (ha.run pos pins s σ H _ I h) fun us s1 ⟨vs, H1, I1, r1, q1⟩ => ?_) hs rfl))
  obtain ⟨a, xs, ex, hq, q⟩ := q1
  subst ex
  cases r1 with
  | cons r rr =>
    cases rr
    cases r
    obtain ⟨its, rv, p', hz⟩ := I1.tuple hq
    refine call_enumT (show s1.heap.IsTuple a its.toArray from p') fun h' he hit hk => wpAny_pyIter_enum he ?_
    have I2 : Inv X pins σ H1 { s1 with heap := h' } := I1.kept (t' := s1.toks) hk
    refine ⟨s1.heap.objs.size + 1, [s1.heap.objs.size + 1, s1.heap.objs.size], _, _, H1, rfl, I2, turn_enumT a (s1.heap.objs.size + 1) s1.heap.objs.size, ⟨⟨.none, he⟩, hit, Nat.succ_ne_self _⟩, fun b hb => ?_, q⟩
    have e' : b = s1.heap.objs.size + 1 ∨ b = s1.heap.objs.size := by simpa using hb
    have hle : s1.heap.objs.size ≤ b := by
      rcases e' with z | z
      · rw [z]; exact Nat.le_add_right _ _
      · rw [z]; exact Nat.le_refl _
    exact I1.fpOk hle (I1.hok.fresh hle)
def iEnumA (K : PySem.W.Frag) (ta : TA) : TI := fun σ H R => iEnumU K ta σ H R ∨ iEnumT K ta σ H R
theorem pi_enumB {X : Cx} {K : PySem.W.Frag} {e : Expr} {ta : TA} {p pos tpos : Pos} {elts : List Expr} {kk : Nat} (hg : Gl X "enumerate") (hm : X.mg "enumerate" = none) (ha : PA X [e] ta) (hs : starEach [e] X.env = [(false, eval e X.env)] := by rfl) (hK : X.K = K := by rfl) :
    PI X (.Tuple elts kk tpos) (.Call (.Name "enumerate" p) [e] [] pos) (iEnumA K ta) := by
  subst hK
  exact PI_or (pi_enumA hg hm ha hs) (pi_enumT hg hm ha hs)
section
variable {K : PySem.W.Frag} {A A' : List Addr} {M : Addr → Prop} {μ μ' : Store} {H H' : Hp} {tas : TA} {mas : Mo (List D)}
def mEnumA (m : Mo (List D)) : Mo (List D × Gd) := fun env μ => (m env μ).bind fun ds μ1 => match ds with
  | [.str l] => .ok (enumL (l.map fun c => .str [c]), none) μ1
  | [.lst xs] => .ok (enumL xs, none) μ1
  | [.tup xs] => .ok (enumL xs, none) μ1
  | _ => .no
theorem i_enumA (h : EvS K tas mas) : ItD K (iEnumA K tas) (mEnumA mas) := fun A M μ H σ env items gd μ' ok en e R f => by
  obtain ⟨ds, μ1, e1, e2⟩ := Rs.bind_ok e
  split at e2
  · exact .inl (i_enum h A M μ H σ env items gd μ' ok en (by unfold mEnum; rw [e1]; exact e2) R f)
  · exact .inl (i_enum h A M μ H σ env items gd μ' ok en (by unfold mEnum; rw [e1]; exact e2) R f)
  · rename_i xs
    cases e2
    refine .inr (h A M μ H σ env _ _ ok en e1 _ fun vs H1 A1 f1 ok1 r => ?_)
    obtain ⟨v, r', rfl, h1, rfl⟩ := r
    obtain ⟨p, vs, rfl, hr, r⟩ := h1
    refine ⟨p, vs, rfl, hr.sq, f _ H1 A1 f1 ok1 ?_⟩
    have hl : (enumL xs).length = xs.length := by simp [enumL]
    have carry : ∀ {A' : List Addr} {M' : Addr → Prop} {H' : Hp}, (∀ a, M' a → M a ∨ H1 a = none) → Fut A1 H1 A' H' → Go A1 M H1 A' M' H' := fun {A' M' H'} hm fu => ⟨(fu.go (M := M)).ix, fun a z => by
      rcases z with z | z
      · exact (fu.go (M := M)).new a (.inl z)
      · exact (hm a z).imp .inr id, (fu.go (M := M)).pr⟩
    have sq : ∀ {A' : List Addr} {M' : Addr → Prop} {H' : Hp}, (∀ a, M' a → M a ∨ H1 a = none) → Fut A1 H1 A' H' → SqT K H' p vs := fun {A' M' H'} hm fu => (show StM K (AM A' M') H' p vs from hr.imp (carry hm fu).rd id).sq
    refine ⟨fun i A' M' μ' H' hm fu ok _ hi => ?_, fun i A' M' μ' H' x H'' d hm fu ok _ hi hy => ?_, fun A' M' μ' H' hm fu ok _ => ?_⟩
    · rw [hl] at hi
      exact ⟨vs, _, sq hm fu, List.getElem?_eq_getElem (by rw [r.len]; exact hi)⟩
    · obtain ⟨T, u, rfl, hT, rfl, hu⟩ := hy
      refine ⟨Evl.Ex.new hT, ?_⟩
      have hlt := (List.getElem?_eq_some_iff.mp hi).1
      rw [hl] at hlt
      unfold enumL at hi
      rw [List.getElem?_map, List.getElem?_range hlt] at hi
      cases hi
      have hg : xs[i]? = some (xs.getD i .non) := by
        rw [List.getD_eq_getElem?_getD, List.getElem?_eq_getElem hlt]
        rfl
      obtain ⟨u', hu', ru⟩ := (RepL.go (carry hm fu) r).get hg
      rw [hu vs (sq hm fu)] at hu'
      cases hu'
      exact ⟨T, _, rfl, .of upd_same (ok.fresh hT), _, _, rfl, rfl, _, _, rfl, RepD.go (Fut.newO hT).go ru, rfl⟩
    · exact ⟨vs, sq hm fu, by rw [r.len, hl]; exact Nat.le_refl _⟩
  · cases e2
end
end My
namespace My
open PySem PySem.Spec PyProof.Rows L2
end My
namespace My
open PySem PySem.Spec PyProof.Rows L2
end My
namespace My
open PySem PySem.Spec PyProof.Rows L2
end My
namespace My
open PySem PySem.Spec PyProof.Rows L2
section
variable {K : PySem.W.Frag} {w : World} {dt : MDs} {A : List Addr} {M : Addr → Prop} {μ : Store} {H : Hp} {te ta : TE} {m : Mo D} {tas : TA} {mas : Mo (List D)}
abbrev keysM (ks : List Codes) : List Key := ks.map fun l => Sum.inr (SX.S l)
theorem keys_inr : ∀ {ks : List Codes}, keysD (ks.map D.str) = some (keysM ks)
  | [] => rfl
  | k :: ks => by
    show keysD (D.str k :: ks.map D.str) = _
    unfold keysD
    rw [keys_inr]
    rfl
end
end My
namespace My
open PySem PySem.Spec PyProof.Rows L2
section
variable {K : PySem.W.Frag} {A : List Addr} {M : Addr → Prop} {μ : Store} {H : Hp}
theorem putKD_rep {ks xs : List D} {j y : D} {r : List D × List D} {q : List Key} {vs : List V} {u v : V} (hr : putKD ks xs j y = some r) (hq : keysD ks = some q) (hl : ks.length = vs.length) (rx : RepL K A M H vs xs) (rj : RepD K A M H u j) (ry : RepD K A M H v y) :
    ∃ k q' vs', u = kV k ∧ putK (q.zip vs) k v = q'.zip vs' ∧ keysD r.1 = some q' ∧ r.1.length = vs'.length ∧ RepL K A M H vs' r.2 ∧ r.1.length ≤ ks.length + 1 := by
  unfold putKD at hr
  split at hr
  · rename_i q2 k hq2 hk
    rw [hq] at hq2
    cases hq2
    have hvl : q.length = vs.length := by rw [keysD_len hq, hl]
    cases keyD_rep hk rj
    obtain ⟨z1, z2⟩ := putK_zip (k := k) (v := v) hvl
    split at hr
    · rename_i hm
      cases hr
      refine ⟨k, q, setK q vs k v, rfl, ?_, hq, ?_, setK_rep ry hvl rx, Nat.le_succ _⟩
      · unfold putK
        rw [z1, if_pos hm, z2]
      · rw [setK_len hvl, hl]
    · rename_i hm
      cases hr
      refine ⟨k, q ++ [k], vs ++ [v], rfl, ?_, keysD_app hq hk, by simp [hl], rx.app (.one ry), by simp⟩
      unfold putK
      rw [z1, if_neg hm, List.zip_append hvl]
      rfl
  · cases hr
end
def dcGo (gd : Gd) (tg : Tg) (t : Mo Bool) (ek ev : Mo D) (env0 : En) : List D → List D → List D → Store → Rs (List D × List D)
  | [], ks, xs, μ => if gdOk gd μ = true then .ok (ks, xs) μ else .no
  | d :: ds, ks, xs, μ => if gdOk gd μ = true then (match tg d env0 with
    | none => .no
    | some env1 => (t env1 μ).bind fun b μ1 => if b = true then (ek env1 μ1).bind fun y μ2 => (ev env1 μ2).bind fun z μ3 => (match putKD ks xs y z with
      | some r => dcGo gd tg t ek ev env0 ds r.1 r.2 μ3
      | none => .no) else dcGo gd tg t ek ev env0 ds ks xs μ1) else .no
def mDc (it : Mo (List D × Gd)) (tg : Tg) (t : Mo Bool) (ek ev : Mo D) (vs : List Nat) : Mo (List D × List D) := fun env μ => (it env μ).bind fun r μ1 => if r.1.length ≤ 50000 then dcGo r.2 tg t ek ev (wipeE env vs) r.1 [] [] μ1 else .no
section
variable {K : PySem.W.Frag} {tk tv : TE} {tt : TT} {mk mv : Mo D} {mt : Mo Bool}
theorem k_dc_at {A : List Addr} {M : Addr → Prop} {μ : Store} {H : Hp} {σ : L2.St} {env : En} {wi : TI} {g : TG} {js vs : List Nat} {tg : Tg} {items : List D} {gd : Gd} {μ1 μ' : Store} {ds : List D × List D} {Q : VK}
    (hi : ∀ R : It → Hp → Prop, (∀ J H1 A1, Fut A H A1 H1 → Ok K A1 M μ1 H1 → ItOkD K J items gd A1 M H1 → R J H1) → wi σ H R) (hg : GD K g js tg) (hjs : ∀ j ∈ js, j ∈ vs) (ht : EvB K tt mt) (hk : EvD K tk mk) (hv : EvD K tv mv)
    (ok : Ok K A M μ H) (en : EnvRep K A M H σ env) (hlen : items.length ≤ 50000) (e2 : dcGo gd tg mt mk mv (wipeE env vs) items [] [] μ1 = .ok ds μ')
    (f : ∀ p vs H' A', Fut A H A' H' → Ok K A' (MP M p) μ' H' → H' p = some (dicO false ds.1 vs) → H p = none → ds.1.length = vs.length → keysOk false ds.1 = true → RepL K A' (MP M p) H' vs ds.2 → Q (.ref p) H') : tDc wi g tt tk tv vs σ H Q := by
  refine hi _ fun J H1 A1 f1 ok1 jt Dl hD => ?_
  have hDA := ok1.fresh hD
  have hD0 : H Dl = none := by
    cases e : H Dl with
    | none => rfl
    | some o =>
      by_cases z : Dl ∈ A
      · obtain ⟨B, rfl⟩ := f1.pre
        exact absurd (.inl (List.mem_append_left _ z)) hDA
      · rw [f1.pr Dl o z e] at hD; cases hD
  have hm : ∀ a, MP M Dl a → M a ∨ H1 a = none := fun a h => h.imp id fun z => by rw [z]; exact hD
  have goN : ∀ {A' : List Addr} {H' : Hp}, Fut A1 H1 A' H' → Go A1 M H1 A' (MP M Dl) H' := fun {A' H'} fu => by
    have g := fu.go (M := M)
    refine ⟨g.ix, fun a z => ?_, g.pr⟩
    rcases z with z | z | z
    · exact g.new a (.inl z)
    · exact .inl (.inr z)
    · rw [z]; exact .inr hD
  have en1 := (en.go f1.go).wipe vs
  refine ⟨fun i n H' => n = items.length - i ∧ i ≤ items.length ∧ ∃ A' μ2 ks xs q vacc, Fut A1 H1 A' H' ∧ Ok K A' (MP M Dl) μ2 H' ∧ H' Dl = some (.dK (q.zip vacc)) ∧ keysD ks = some q ∧ ks.length = vacc.length ∧ RepL K A' (MP M Dl) H' vacc xs ∧ ks.length ≤ i ∧ dcGo gd tg mt mk mv (wipeE env vs) (items.drop i) ks xs μ2 = .ok ds μ', ⟨items.length, by simp, Nat.zero_le _, A1, μ1, [], [], [], [], .newO hD, ?_, upd_same, rfl, rfl, rfl, Nat.le_refl _, e2⟩, ?_⟩
  · exact (ok1.openM hD fun q z => by unfold LamX.CodeO at z; cases z).1
  · rintro i n H' ⟨rfl, hle, A', μ2, ks, xs, q, vacc, fu, ok', hv1, hq, hl, rv, hal, e3⟩
    by_cases hlt : i < items.length
    · have hget : items[i]? = some items[i] := List.getElem?_eq_getElem hlt
      rw [List.drop_eq_getElem_cons hlt] at e3
      unfold dcGo at e3
      split at e3
      · rename_i hgd
        cases e4 : tg items[i] (wipeE env vs) with
        | none => rw [e4] at e3; cases e3
        | some env1 =>
          rw [e4] at e3
          dsimp only at e3
          obtain ⟨b, μ3, e5, e6⟩ := Rs.bind_ok e3
          refine .inr ⟨jt.go i A' (MP M Dl) μ2 H' hm fu ok' hgd hlt, fun H2 => ∃ A2 μ2 ks xs q vacc, Fut A1 H1 A2 H2 ∧ Ok K A2 (MP M Dl) μ2 H2 ∧ H2 Dl = some (.dK (q.zip vacc)) ∧ keysD ks = some q ∧ ks.length = vacc.length ∧ RepL K A2 (MP M Dl) H2 vacc xs ∧ ks.length ≤ i + 1 ∧ dcGo gd tg mt mk mv (wipeE env vs) (items.drop (i + 1)) ks xs μ2 = .ok ds μ', fun H2 hn => ⟨items.length - (i + 1), by omega, rfl, by omega, hn⟩, fun x H'' hy => ?_⟩
          obtain ⟨ex, rx⟩ := jt.yld i A' (MP M Dl) μ2 H' x H'' _ hm fu ok' hgd hget hy
          have fe : Fut A' H' A' H'' := .ex ex
          obtain ⟨σ3, en3, w3, q3⟩ := hg A' (MP M Dl) H'' x _ (wipe σ vs) (wipeE env vs) env1 (en1.go (goN (fu.trans fe))) rx e4
          refine q3 _ ⟨(w3 vs hjs).trans wipe_idem, ?_⟩
          refine ht A' (MP M Dl) μ2 H'' σ3 env1 b μ3 (ok'.ex ex) en3 e5 _ fun H3 A3 f3 ok3 => ?_
          have hD3 : H3 Dl = some (.dK (q.zip vacc)) := f3.pr _ _ (fun z => ok'.dis _ z (.inr rfl)) (ex _ _ hv1)
          have rv3 : RepL K A3 (MP M Dl) H3 vacc xs := RepL.go (fe.trans f3).go rv
          cases b with
          | false => exact ⟨A3, μ3, ks, xs, q, vacc, fu.trans (fe.trans f3), ok3, hD3, hq, hl, rv3, by omega, e6⟩
          | true =>
            obtain ⟨y, μ4, e7, e8⟩ := Rs.bind_ok e6
            obtain ⟨z, μ5, e9, e10⟩ := Rs.bind_ok e8
            cases e11 : putKD ks xs y z with
            | none => rw [e11] at e10; cases e10
            | some r =>
              rw [e11] at e10
              dsimp only at e10
              refine hk A3 (MP M Dl) μ3 H3 σ3 env1 y μ4 ok3 (en3.go f3.go) e7 _ fun yv H4 A4 f4 ok4 r4 => ?_
              refine hv A4 (MP M Dl) μ4 H4 σ3 env1 z μ5 ok4 (en3.go (f3.trans f4).go) e9 _ fun zv H5 A5 f5 ok5 r5 => ?_
              have hD4 : H4 Dl = some (.dK (q.zip vacc)) := f4.pr _ _ (fun z => ok3.dis _ z (.inr rfl)) hD3
              have hD5 : H5 Dl = some (.dK (q.zip vacc)) := f5.pr _ _ (fun z => ok4.dis _ z (.inr rfl)) hD4
              have rv5 : RepL K A5 (MP M Dl) H5 vacc xs := RepL.go (f4.trans f5).go rv3
              obtain ⟨k, q', vs', rfl, pz, hq', hl', rr, hle'⟩ := putKD_rep e11 hq hl rv5 (RepD.go f5.go r4) r5
              have hMD : MP M Dl Dl := .inr rfl
              refine ⟨q.zip vacc, k, rfl, hD5, Evl.sz_lt (by rw [List.length_zip]; omega), ?_⟩
              rw [pz]
              refine ⟨A5, μ5, r.1, r.2, q', vs', ?_, ok5.updM hMD (fun q z => by unfold LamX.CodeO at z; cases z), upd_same, hq', hl', RepL.go (go_updM hMD) rr, by omega, e10⟩
              have f6 := fu.trans (fe.trans (f3.trans (f4.trans f5)))
              refine ⟨f6.pre, f6.new, fun a o ha hh => ?_⟩
              have ne : a ≠ Dl := fun z => by rw [z, hD] at hh; cases hh
              rw [upd_ne ne]
              exact f6.pr a o ha hh
      · cases e3
    · have : i = items.length := by omega
      subst this
      rw [List.drop_of_length_le (Nat.le_refl _)] at e3
      unfold dcGo at e3
      split at e3
      · rename_i hgd
        cases e3
        refine .inl ⟨jt.stop A' (MP M Dl) _ H' hm fu ok' hgd, ?_⟩
        refine f Dl vacc H' A' (f1.trans fu) ok' ?_ hD0 hl ?_ rv
        · rw [hv1]
          unfold dicO
          rw [hq]
          rfl
        · unfold keysOk
          rw [hq]
          rfl
      · cases e3
theorem k_dc {wi : TI} {it : Mo (List D × Gd)} {g : TG} {js vs : List Nat} {tg : Tg} (hi : ItD K wi it) (hg : GD K g js tg) (hjs : ∀ j ∈ js, j ∈ vs) (ht : EvB K tt mt) (hk : EvD K tk mk) (hv : EvD K tv mv) : EvK K (tDc wi g tt tk tv vs) (mDc it tg mt mk mv vs) := fun A M μ H σ env r μ' ok en e Q f => by
  obtain ⟨⟨items, gd⟩, μ1, e1, e2⟩ := Rs.bind_ok e
  split at e2
  · rename_i hlen
    exact k_dc_at (fun R hR => hi A M μ H σ env items gd μ1 ok en e1 R hR) hg hjs ht hk hv ok en hlen e2 f
  · cases e2
end
end My
namespace My
open PySem PySem.Spec PyProof.Rows L2
end My
namespace My
open PySem PySem.Spec PyProof.Rows L2
end My
namespace My
open PySem PySem.Spec PyProof.Rows L2
end My
namespace My
open PySem PySem.Spec PyProof.Rows L2
end My
namespace My
open PySem PySem.Spec PyProof.Rows L2
end My
namespace My
open PySem PySem.Spec PyProof.Rows L2
open PySem.Calls
section
variable {prog : Program} {w : World} {A : Around} {E : Value → Shared → Prop} {s : Shared}
theorem DictOf.noName {knd : KeyKind prog w Key} {es : Array DictEntry} {vs : List (Key × Value)} (hp : Pairs knd es.toList vs) {x : Str} (hs : ∀ t, knd.is (.inr x) (.str x t) = true) (hn : Sum.inr x ∉ vs.map (·.1)) : ∀ e ∈ es.toList, e.key.isStr x = false := by
  intro e he
  have hx := hs 0
  have h1 := knd.strs (.inr x) x 0 e.key hx
  rw [← h1]
  have hf := hp.findIdx (.inr x)
  cases hk : knd.is (.inr x) e.key with
  | false => rfl
  | true =>
    exfalso
    have h2 : vs.findIdx? (fun kv => decide (kv.1 = Sum.inr x)) = none := by
      rw [List.findIdx?_eq_none_iff]
      intro kv hkv
      exact decide_eq_false fun z => hn (List.mem_map.mpr ⟨kv, hkv, z⟩)
    rw [h2, List.findIdx?_eq_none_iff] at hf
    have := hf e he
    rw [hk] at this
    cases this
theorem strHash_w {x : Str} {Q : Int → Shared → Prop} (h : Q (hashStr w x) s) : wpAny (model prog w) A (strHash x) Q E s := by
  unfold strHash
  exact wpAny_bind (wpAny_askSetting (wpAny_pure h))
theorem ns_put {d : Addr} {vs : List (Key × Value)} {x : Str} {v : Value} {Q : Unit → Shared → Prop} (hm : s.heap.DictOf (mixKind prog w) d vs) (hf : Sum.inr x ∉ vs.map (·.1))
    (h : ∀ h', h'.DictOf (mixKind prog w) d (vs ++ [(Sum.inr x, v)]) → Heap.SameBut d s.heap h' → Q () { s with heap := h', toks := s.toks + 1 }) :
    wpAny (model prog w) A (nsSet d x v) Q E s := by
  obtain ⟨o, es, ep, ho, hc, hd, hk, hp, hn⟩ := hm
  have hno := DictOf.noName hp (fun t => keyIs_str x t) hf
  have hany : es.any (fun e => e.key.isStr x) = false := by
    rw [Array.any_eq_false]
    intro i hi
    have := hno es[i] (by simp)
    simp [this]
  have href : es.any (·.refKey) = false := by
    rw [Array.any_eq_false]
    intro i hi
    obtain ⟨k, hkey, _⟩ := hk es[i] (Array.getElem_mem hi)
    rcases keyIs_shape hkey with ⟨j, t, _, e⟩ | ⟨y, t, _, e⟩ <;> simp [DictEntry.refKey, e]
  unfold nsSet
  refine wpAny_bind (strHash_w ?_)
  have hx : (mixKind prog w).is (.inr x) (.str x s.toks) = true := keyIs_str x s.toks
  refine wpAny_bind (wpAny_mkText ?_)
  refine wpAny_bind (wpAny_loadPart ho ?_)
  rw [hd]
  dsimp only
  rw [aRefKeyMayBeTheName_at, hany, href]
  refine wpAny_updatePart ho ?_
  have e : Obj.putName x (hashStr w x) (.str x s.toks) v o = ⟨o.cls, o.dict, .dict (es.push ⟨hashStr w x, .str x s.toks, v⟩) (ep + 1), o.slots⟩ := by
    obtain ⟨c, dd, dt, sl⟩ := o
    dsimp only at hd
    subst hd
    rw [Obj.putName_eq]
    unfold Obj.putNameByArray
    dsimp only
    have : es.findIdx? (fun e => e.key.isStr x) = none := by
      rw [Array.findIdx?_eq_none_iff]
      intro e he
      exact hno e (by simpa using he)
    rw [this]
  refine h _ ⟨_, es.push ⟨hashStr w x, .str x s.toks, v⟩, ep + 1, Heap.get?_update_self _ ho ?_, ?_, ?_, ?_, ?_, ?_⟩ (Heap.SameBut.update ..)
  · rw [e]; rfl
  · rw [e]; exact hc
  · rw [e]
  · exact hk.push hx v
  · have := hp.append hx (hashStr w x) v
    obtain ⟨l⟩ := es
    simpa using this
  · rw [List.map_append, List.nodup_append]
    refine ⟨hn, by simp, ?_⟩
    intro a ha b hb
    simp only [List.map_cons, List.map_nil, List.mem_singleton] at hb
    subst hb
    exact fun z => hf (z ▸ ha)
/-- the row of names and values, put into a dict -/
theorem ns_puts {d : Addr} : ∀ (kw : List (Str × Value)) (vs : List (Key × Value)) (s : Shared) (Q : PUnit → Shared → Prop), s.heap.DictOf (mixKind prog w) d vs → (vs.map (·.1) ++ kw.map fun p => (Sum.inr p.1 : Key)).Nodup →
    (∀ h' t', h'.DictOf (mixKind prog w) d (vs ++ kw.map fun p => (Sum.inr p.1, p.2)) → Heap.SameBut d s.heap h' → Q ⟨⟩ { s with heap := h', toks := t' }) →
    wpAny (model prog w) A (forIn kw PUnit.unit fun p _ => do nsSet d p.1 p.2; pure (ForInStep.yield PUnit.unit)) Q E s
  | [], vs, s, Q, hm, _, h => by
    rw [List.forIn_nil]
    refine wpAny_pure ?_
    have := h s.heap s.toks (by simpa using hm) (Heap.SameBut.refl _ _)
    exact this
  | p :: kw, vs, s, Q, hm, hn, h => by
    rw [List.forIn_cons]
    have h1 : Sum.inr p.1 ∉ vs.map (·.1) := fun z => by
      rw [List.map_cons, List.nodup_append] at hn
      exact hn.2.2 _ z _ (.head _) rfl
    refine wpAny_bind (wpAny_bind (ns_put hm h1 fun h' dd sb => wpAny_pure ?_))
    refine ns_puts kw (vs ++ [(Sum.inr p.1, p.2)]) _ Q dd ?_ fun h2 t2 d2 s2 => ?_
    · rw [List.map_append, List.append_assoc]
      exact hn
    · refine h h2 t2 ?_ (sb.trans s2)
      rw [List.append_assoc] at d2
      exact d2
end
theorem lookup_zip {ps : List Str} : ∀ {us : List Value}, us.length = ps.length → ∀ n ∈ ps, ((ps.zip us).lookup n).isSome = true := by
  induction ps with
  | nil => intro us _ n hn; cases hn
  | cons p ps ih =>
    intro us hl n hn
    cases us with
    | nil => cases hl
    | cons u us =>
      rw [List.zip_cons_cons, List.lookup_cons]
      by_cases h : n = p
      · subst h
        simp
      · rw [beq_eq_false_iff_ne.mpr h]
        exact ih (Nat.succ.inj hl) n ((List.mem_cons.mp hn).resolve_left h)
theorem zip_back {ps : List Str} : ∀ {us : List Value} (x : List (Str × Value)), (∀ n ∈ ps, (x.lookup n) = none) → ps.Nodup → us.length = ps.length → ps.filterMap (fun n => ((x ++ ps.zip us).lookup n).map (n, ·)) = ps.zip us := by
  induction ps with
  | nil => intro us x _ _ _; rfl
  | cons p ps ih =>
    intro us x hx hn hl
    cases us with
    | nil => cases hl
    | cons u us =>
      rw [List.nodup_cons] at hn
      have e : (x ++ (p :: ps).zip (u :: us)).lookup p = some u := by
        rw [List.lookup_append, hx p (.head _), List.zip_cons_cons, List.lookup_cons, beq_self_eq_true]
        rfl
      rw [List.filterMap_cons, e, Option.map_some, List.zip_cons_cons]
      have a : x ++ (p, u) :: ps.zip us = (x ++ [(p, u)]) ++ ps.zip us := by simp
      rw [a]
      have := ih (us := us) (x ++ [(p, u)]) (fun n h => by
        rw [List.lookup_append, hx n (.tail _ h)]
        have : n ≠ p := fun z => hn.1 (z ▸ h)
        rw [List.lookup_cons, beq_eq_false_iff_ne.mpr this]
        rfl) hn.2 (Nat.succ.inj hl)
      rw [this]
section
variable {prog : Program} {w : World} {A : Around} {E : Value → Shared → Prop} {s : Shared}
/-- what a def with **more binds -/
theorem bind_kw {fd : FuncData} {ps : List Str} {ka : Arg} {us : List Value} {ws : List (Str × Value)} {Q : List (Str × Value) → Shared → Prop} (h1 : fd.params.posonlyargs = []) (h2 : fd.params.args.map (·.arg) = ps) (h3 : fd.params.kwonlyargs = []) (h4 : fd.params.vararg = none) (h5 : fd.params.kwarg = some ka) (h6 : fd.defaults = .none)
    (hnd : ps.Nodup) (hl : us.length = ps.length) (hw : ∀ p ∈ ws, p.1 ∉ ps) (hz : ws.length ≤ sizeLine) (hn : (ws.map (·.1)).Nodup)
    (h : ∀ h' t' d, s.heap.objs.size = d → h'.DictOf (mixKind prog w) d (ws.map fun p => (Sum.inr p.1, p.2)) → Heap.SameBut d (s.heap.push { cls := .type "dict", data := .dict #[] }) h' → Q (ps.zip us ++ [(ka.arg, .ref d)]) { s with heap := h', toks := t' }) :
    wpAny (model prog w) A (bindArgs fd ⟨us, ws⟩) Q E s := by
  unfold bindArgs
  simp only [h1, h2, h3, h4, h5, h6, List.map_nil, List.nil_append, List.append_nil]
  refine wpAny_bind (wpAny_forIn_list _ (fun rest b s' => s' = s ∧ ∃ done, ws = done ++ rest ∧ b = (ps.zip us, done)) _ (fun x rest b s' ⟨hs, done, e, eb⟩ => ?_) (fun b s' ⟨hs, done, e, eb⟩ => ?_) ws _ ⟨rfl, [], rfl, rfl⟩)
  · subst hs eb
    have hx : ps.contains x.1 = false := by
      rw [Bool.eq_false_iff]
      intro z
      exact hw x (by rw [e]; simp) (List.contains_iff_mem.mp z)
    have hc : (ps.contains x.fst || ([] : List Str).contains x.fst) = false := by rw [hx]; rfl
    rw [hc]
    simp only [Bool.false_eq_true, if_false, Option.isSome_some, if_true]
    exact wpAny_pure ⟨rfl, done ++ [x], by rw [e]; simp, rfl⟩
  · rw [List.append_nil] at e
    subst hs e eb
    dsimp only
    refine wpAny_bind (wpAny_bind (wpAny_pure (wpAny_pure ?_)))
    simp only [Option.getD_none]
    have g1 : (decide (us.length > ps.length) && (none : Option Arg).isNone) = false := by simp [hl]
    rw [g1]
    simp only [Bool.false_eq_true, if_false]
    have g2 : List.drop (([] : List Value).length - ps.length) ([] : List Value) = [] := by simp
    rw [g2]
    have g3 : (List.filter (fun n => (List.lookup n (ps.zip us)).isNone) (List.take (ps.length - ([] : List Value).length) ps)) = [] := by
      rw [List.filter_eq_nil_iff]
      intro n hn'
      have := lookup_zip hl n (List.mem_of_mem_take hn')
      rw [Option.isSome_iff_ne_none] at this
      simp only [Option.isNone_iff_eq_none]
      exact this
    rw [g3, List.zip_nil_right]
    simp only [List.isEmpty_nil, Bool.not_true, Bool.false_eq_true, if_false, List.forIn_nil]
    refine wpAny_bind (wpAny_pure (wpAny_bind (wpAny_pure ?_)))
    simp only [List.isEmpty_nil, Bool.not_true, Bool.false_eq_true, if_false]
    rw [if_neg (show ¬ ws.length > sizeLine + 1 by omega)]
    refine wpAny_bind (wpAny_alloc ?_)
    refine wpAny_bind (ns_puts (w := w) ws [] _ _ (Heap.DictOf.new _) (by
      rw [List.map_nil, List.nil_append]
      exact List.pairwise_map.mpr (List.Pairwise.imp (fun h z => h (Sum.inr.inj z)) (List.pairwise_map.mp hn))) fun h' t' dd sb => wpAny_pure ?_)
    have zb := zip_back (ps := ps) (us := us) [] (fun _ _ => rfl) hnd hl
    rw [List.nil_append] at zb
    rw [zb]
    exact h h' t' _ rfl dd sb
end
theorem env0_laidG {P : Program} {w : World} {K : PySem.W.Frag} {mg : Str → Option Value} {base : Heap} {A : Around} {outer : List Env} {s : Shared} {H : Hp} {u : HO} {h' : Heap} {t' : Nat} (e0 : Env0 P w K mg base A outer s H) (kp : ∀ b x, s.heap.get? b = some x → h'.get? b = some x) (hsz : s.heap.objs.size ≤ h'.objs.size) (new : ObjOk P w (upd H s.heap.objs.size u) h' s.heap.objs.size u) :
    Env0 P w K mg base A outer { s with heap := h', toks := t' } (upd H s.heap.objs.size u) := by
  refine ⟨e0.frames, e0.mod, fun b x e => ⟨kp b x (e0.bs b x e).1, ?_⟩, Nat.le_trans e0.bsz hsz, Heap.FunFrames.of_keeps (fun b x e _ => ⟨x, kp b x e, rfl⟩) e0.funs, fun b hb => ?_, e0.hok.laid kp (Nat.le_refl _) new, e0.bare⟩
  · rw [upd_ne (Nat.ne_of_lt (Heap.lt_size (e0.bs b x e).1))]
    exact (e0.bs b x e).2
  · obtain ⟨_, x, hx, _⟩ := e0.funs.mem hb
    rw [upd_ne (Nat.ne_of_lt (Heap.lt_size hx))]
    exact e0.frf b hb
/-- a def that is called by place and by keywords; those that are left over become a dict -/
def FnRK (P : Program) (w : World) (K : PySem.W.Frag) (mg : Str → Option Value) (base : Heap) (CX : CXT) (k : Nat) (f : Addr) (n : Nat) (ps : List Str) (sp : Sp) : Prop :=
  ∀ (A : Around) (outer : List Env) (s : Shared) (H : Hp) (us : List Value) (vs : List V) (kvs : List (Str × V)) (ws : List (Str × Value)) (Q : VK) (E : XK),
    Room k A → Env0 P w K mg base A outer s H → Vals vs us → KV kvs ws → vs.length = n → (kvs.map (·.1)).Nodup → (∀ p ∈ kvs, p.1 ∉ ps) → kvs.length ≤ sizeLine →
    (∀ d, H d = none → sp (vs ++ [V.ref d]) (upd H d (.dK (kvs.map fun p => (Sum.inr p.1, p.2)))) Q E) →
    codeAny (model P w) A (.call (.ref f) ⟨us, ws⟩) (CR CX outer P w H s Q E) s
theorem KV_inr {kvs : List (Str × V)} {ws : List (Str × Value)} (r : KV kvs ws) : KV (kvs.map fun p => ((Sum.inr p.1 : Key), p.2)) (ws.map fun p => (Sum.inr p.1, p.2)) := by
  induction r with
  | nil => exact .nil
  | cons a _ ih => exact .cons ⟨congrArg Sum.inr a.1, a.2⟩ ih
theorem KV_mem {kvs : List (Str × V)} {ws : List (Str × Value)} (r : KV kvs ws) {p : Str × Value} (h : p ∈ ws) : ∃ q ∈ kvs, q.1 = p.1 := by
  induction r with
  | nil => cases h
  | cons a _ ih =>
    rcases List.mem_cons.mp h with rfl | h
    · exact ⟨_, .head _, a.1⟩
    · obtain ⟨q, hq, e⟩ := ih h
      exact ⟨q, .tail _ hq, e⟩
section
variable {CX : CXT} {P : Program} {w : World} {K : PySem.W.Frag} {mg : Str → Option Value} {base : Heap} {k : Nat} {f : Addr} {name qual : Str} {params : Arguments} {body : List Stmt} {scope : Scope} {dV kV doc pm cdv ct oc : Value} {an od : Option Addr}
  {osl : Array (Option Value)} {N ps : List Str} {sp : Sp}
theorem fn_kw {pd : Str} {ka : Arg} (lk : K.lookup f = some ⟨oc, od, .func (PySem.W.fnOf name qual params body scope .none kV doc pm an cdv ct), osl⟩) (hcd : PySem.W.codeIn K cdv qual = true) (S : FnScope N (ps ++ [pd]) scope) (hCX : StX.CXUp CX)
    (h1 : params.posonlyargs = []) (h2 : params.args.map (·.arg) = ps) (h3 : params.kwonlyargs = []) (h4 : params.vararg = none) (h5 : params.kwarg = some ka) (hpd : ka.arg = pd) (hnd : ps.Nodup)
    (hbody : ∀ (A : Around) (outer : List Env) (s : Shared) (H : Hp) (vs : List V) (Q : VK) (E : XK), Room k (A.deeper (envOfC qual scope s.heap.objs.size f cdv)) → sp vs H Q E →
      ∃ t, PSs (cxOf CX P w K mg base N qual scope f cdv A outer s H E) body t ∧ t { nx := fun _ H' => Q .non H', rt := Q } (start N vs) H) :
    FnRK P w K mg base CX (k + 1) f ps.length ps sp := by
  intro A outer s H us vs kvs ws Q E hr e0 r rk hl hn hbad hz hq
  have hl1 : us.length = ps.length := by rw [← r.length]; exact hl
  have hlen : ws.length ≤ sizeLine := by rw [← L2.KV.length rk]; exact hz
  have hn0 : H s.heap.objs.size = Option.none := e0.hok.fresh (Nat.le_refl _)
  refine StX.run_bnd lk hcd S hr e0 (G := fun xs H2 => ∃ d, H d = Option.none ∧ xs = vs ++ [V.ref d] ∧ H2 = upd H d (.dK (kvs.map fun p => (Sum.inr p.1, p.2)))) (fun A' Ex Q' h => ?_) fun s2 H2 xs ⟨d, hd, ex, eH⟩ hr' => ?_
  · refine bind_kw (w := w) h1 h2 h3 h4 h5 rfl hnd hl1 (fun p hp z => ?_) hlen ?_ fun h' t' d hd dd sb => ?_
    · obtain ⟨q, hq', e⟩ := KV_mem rk hp
      exact hbad q hq' (e ▸ z)
    · rw [← L2.KV.keys rk]
      exact hn
    · subst hd hpd
      have new : ObjOk P w (upd H s.heap.objs.size (.dK (kvs.map fun p => (Sum.inr p.1, p.2)))) h' s.heap.objs.size (.dK (kvs.map fun p => (Sum.inr p.1, p.2))) :=
        ⟨by rw [List.length_map]; exact hz, beq_eq_false_iff_ne.mpr (Ne.symm (Nat.ne_of_lt (StX.env0_big e0))), _, KV_inr rk, dd⟩
      have kp : ∀ b x, s.heap.get? b = some x → h'.get? b = some x := fun b x e => by
        rw [sb.2 b (Nat.ne_of_lt (Heap.lt_size e))]
        exact Heap.get?_push_of_some _ e
      have hsz : s.heap.objs.size ≤ h'.objs.size := by
        rw [sb.1, Heap.size_push]
        exact Nat.le_succ _
      have un : Un (frs outer) [] H (upd H s.heap.objs.size (.dK (kvs.map fun p => (Sum.inr p.1, p.2)))) s.heap h' := Un.laid kp (Nat.le_refl _) hn0
      have z := h _ _ (vs ++ [V.ref s.heap.objs.size]) (us ++ [Value.ref s.heap.objs.size]) (env0_laidG (t' := t') e0 kp hsz new) un rfl (fun e s' => hCX outer s H _ _ E e s' un kp rfl) (r.append (.cons rfl .nil))
        (by rw [List.length_append, List.length_append, hl] <;> rfl) ⟨_, hn0, rfl, rfl⟩
      rw [List.zip_append hl1.symm] at z
      exact z
  · subst ex eH
    exact hbody A outer s2 _ _ Q E hr' (hq d hd)
end
end My
namespace My
open PySem PySem.Spec PyProof.Rows L2
open PySem.Calls
section
variable {prog : Program} {w : World} {A : Around} {E : Value → Shared → Prop} {s : Shared}
theorem Pairs_at {knd : KeyKind prog w Key} {es : List DictEntry} {vs : List (Key × Value)} (hp : Pairs knd es vs) {i : Nat} {e : DictEntry} (he : es[i]? = some e) : ∃ kv, vs[i]? = some kv ∧ knd.is kv.1 e.key = true ∧ e.val = kv.2 := by
  induction hp generalizing i with
  | nil => cases he
  | cons h1 h2 _ ih =>
    cases i with
    | zero => cases he; exact ⟨_, rfl, h1, h2⟩
    | succ i => exact ih he
/-- a new key put -/
theorem put_new {d : Addr} {vs : List (Key × Value)} {k : Key} {key v : Value} {Q : Unit → Shared → Prop} (hkey : (mixKind prog w).is k key = true) (hm : s.heap.DictOf (mixKind prog w) d vs) (hnot : k ∉ vs.map (·.1)) (hz : vs.length ≤ sizeLine)
    (hQ : ∀ h', h'.DictOf (mixKind prog w) d (vs ++ [(k, v)]) → Heap.SameBut d s.heap h' → Q () { s with heap := h' }) :
    wpAny (model prog w) A (dictPut d ((mixKind prog w).hash k) key v) Q E s := by
  obtain ⟨o, es, ep, ho, hc, hd, hk, hp, hn⟩ := hm
  have hes : es.size ≤ sizeLine := by
    have e1 := hp.length
    have e2 : es.toList.length = es.size := by simp
    omega
  unfold dictPut
  refine wpAny_bind (wpAny_dictFind_of hkey ho hd hk ?_)
  have hidx : (es.findIdx? fun e => (mixKind prog w).is k e.key) = none := by
    have := hp.findIdx k
    have h2 : vs.findIdx? (fun kv => decide (kv.1 = k)) = none := by
      rw [List.findIdx?_eq_none_iff]
      intro kv hkv
      exact decide_eq_false fun z => hnot (List.mem_map.mpr ⟨kv, hkv, z⟩)
    rw [h2] at this
    rw [← this]
    obtain ⟨l⟩ := es
    simp
  rw [hidx]
  refine wpAny_updateDictKeys (hz := hes) ho hd (hQ _ ⟨_, _, ep + 1, Heap.get?_update_self _ ho (Obj.isFreed_of_dict (Obj.data_mapDictKeys hd _)),
      hc.mapDictKeys _, Obj.data_mapDictKeys hd _, hk.push hkey _, ?_, ?_⟩ (Heap.SameBut.update ..))
  · have := hp.append hkey ((mixKind prog w).hash k) v
    obtain ⟨l⟩ := es
    simpa using this
  · rw [List.map_append, List.nodup_append]
    refine ⟨hn, by simp, ?_⟩
    intro a ha b hb
    simp only [List.map_cons, List.map_nil, List.mem_singleton] at hb
    subst hb
    exact fun e => hnot (e ▸ ha)
theorem find_new {d : Addr} {vs : List (Key × Value)} {k : Key} {key : Value} {Q : Option Nat → Shared → Prop} (hkey : (mixKind prog w).is k key = true) (hm : s.heap.DictOf (mixKind prog w) d vs) (hnot : k ∉ vs.map (·.1)) (hQ : Q none s) :
    wpAny (model prog w) A (dictFind d key ((mixKind prog w).hash k)) Q E s := by
  obtain ⟨o, es, ep, ho, hc, hd, hk, hp, hn⟩ := hm
  refine wpAny_dictFind_of hkey ho hd hk ?_
  have hidx : (es.findIdx? fun e => (mixKind prog w).is k e.key) = none := by
    have := hp.findIdx k
    have h2 : vs.findIdx? (fun kv => decide (kv.1 = k)) = none := by
      rw [List.findIdx?_eq_none_iff]
      intro kv hkv
      exact decide_eq_false fun z => hnot (List.mem_map.mpr ⟨kv, hkv, z⟩)
    rw [h2] at this
    rw [← this]
    obtain ⟨l⟩ := es
    simp
  rw [hidx]
  exact hQ
theorem merge_new {d a : Addr} {vs : List (Key × Value)} {Q : Unit → Shared → Prop} (hS : (a == sysModules) = false) (hne : a ≠ d) (hd : s.heap.DictOf (mixKind prog w) d []) (ha : s.heap.DictOf (mixKind prog w) a vs) (hz : vs.length ≤ sizeLine)
    (hQ : ∀ h', h'.DictOf (mixKind prog w) d vs → Heap.SameBut d s.heap h' → Q () { s with heap := h' }) :
    wpAny (model prog w) A (mergeMapping d (.ref a) true) Q E s := by
  obtain ⟨o, es, ep, ho, hc, hda, hk, hp, hn⟩ := id ha
  obtain ⟨o2, es2, ep2, ho2, hc2, hd2, hk2, hp2, hn2⟩ := id hd
  have hes2 : es2 = #[] := by
    have := hp2.length
    have e2 : es2.toList.length = es2.size := by simp
    rw [e2] at this
    exact Array.eq_empty_of_size_eq_zero this
  subst hes2
  have ht : s.TypeIs (.ref a) "dict" := ⟨o, ho, hc.1⟩
  unfold mergeMapping
  refine wpAny_bind (wpAny_isInstance (b := true) ht (by rfl) ?_)
  dsimp only
  rw [if_pos rfl]
  refine wpAny_bind (wpAny_specialOf ht PySem.F.slot_dict_iter.lookup ?_)
  refine wpAny_bind (wpAny_pure ?_)
  have hit : ((some (Value.builtin "dict.__iter__") : Option Value) == some (Value.builtin "dict.__iter__")) = true := by decide
  try rw [hit]
  try dsimp only
  rw [hS]
  simp only [Bool.false_eq_true, if_false]
  refine wpAny_bind (wpAny_dictEntries ho2 hd2 ?_)
  rw [if_pos (by rfl)]
  refine wpAny_bind (wpAny_dictEntries ho hda ?_)
  rw [← Array.forIn_toList]
  refine wpAny_bind (wpAny_forIn_list _ (fun rest _ s' => s' = s ∧ ∀ e ∈ rest, e ∈ es.toList) _ (fun e rest b s' ⟨hs, hr⟩ => ?_) (fun _ s' ⟨hs, _⟩ => ?_) es.toList _ ⟨rfl, fun _ h => h⟩)
  · subst hs
    have he := hr e (.head _)
    obtain ⟨k, hkey, _⟩ := hk e (by simpa using he)
    have z : wpAny (model prog w) A (pure (ForInStep.yield PUnit.unit)) (fun r s'' => match r with | .yield b' => s'' = s' ∧ ∀ e ∈ rest, e ∈ es.toList | .done b' => False) E s' := wpAny_pure ⟨rfl, fun e' h => hr e' (.tail _ h)⟩
    rcases keyIs_shape hkey with ⟨j, t, _, ek⟩ | ⟨y, t, _, ek⟩
    · rw [ek]
      exact wpAny_pure ⟨rfl, fun e' h => hr e' (.tail _ h)⟩
    · rw [ek]
      exact wpAny_pure ⟨rfl, fun e' h => hr e' (.tail _ h)⟩
  · subst hs
    refine wpAny_bind (wpAny_dictEntries ho hda ?_)
    refine wpAny_bind (wpAny_dictEpoch ho hda ?_)
    have hlen : vs.length = es.size := by
      rw [← hp.length]
      simp
    refine wpAny_bind (wpAny_forIn_list _ (fun rest _ s2 => ∃ i, rest = (List.range es.size).drop i ∧ ∃ h', s2 = { s' with heap := h' } ∧ h'.DictOf (mixKind prog w) d (vs.take i) ∧ Heap.SameBut d s'.heap h') _ (fun i rest b s2 ⟨i0, hr, h', e2, dd, sb⟩ => ?_) (fun _ s2 ⟨i0, hr, h', e2, dd, sb⟩ => ?_) _ _ ⟨0, rfl, s'.heap, rfl, hd, Heap.SameBut.refl _ _⟩)
    · subst e2
      have hi0 : i0 < es.size := by
        rcases Nat.lt_or_ge i0 es.size with h | h
        · exact h
        · rw [List.drop_eq_nil_of_le (by simpa using h)] at hr
          cases hr
      have hi : i = i0 ∧ rest = (List.range es.size).drop (i0 + 1) := by
        rw [List.drop_eq_getElem_cons (by simpa using hi0)] at hr
        injection hr with a b
        exact ⟨by simpa using a, b⟩
      obtain ⟨rfl, hrest⟩ := hi
      have hoa : h'.get? a = some o := by rw [sb.2 a hne]; exact ho
      refine wpAny_bind (wpAny_dictEntries hoa hda ?_)
      obtain ⟨kv, hkv, hkey, hval⟩ := Pairs_at hp (e := es[i]) (by rw [Array.getElem?_toList, Array.getElem?_eq_getElem hi0])
      obtain ⟨k2, hkey2, hhash⟩ := hk es[i] (Array.getElem_mem hi0)
      have hkk : k2 = kv.1 := (mixKind prog w).inj _ _ _ hkey2 hkey
      subst hkk
      rw [Array.getElem?_eq_getElem hi0]
      dsimp only
      simp only [if_true, hhash]
      have hfresh : kv.1 ∉ (vs.take i).map (·.1) := fun z => by
        have e := List.take_append_drop i vs
        rw [← e, List.map_append, List.nodup_append] at hn
        have hdr : vs.drop i = kv :: vs.drop (i + 1) := by
          obtain ⟨hlt, hh⟩ := List.getElem?_eq_some_iff.mp hkv
          rw [List.drop_eq_getElem_cons hlt, hh]
        rw [hdr] at hn
        exact hn.2.2 _ z _ (.head _) rfl
      refine wpAny_bind (wpAny_holding (wpAny_bind (find_new hkey dd hfresh ?_)))
      simp only [Option.isSome_none, Bool.false_eq_true, if_false]
      refine put_new hkey dd hfresh (by rw [List.length_take]; omega) fun h2 d2 s2 => ?_
      have hoa2 : h2.get? a = some o := by rw [s2.2 a hne]; exact hoa
      refine wpAny_bind (wpAny_dictEpoch hoa2 hda ?_)
      simp only [bne_self_eq_false, Bool.false_eq_true, if_false]
      refine wpAny_pure ⟨i + 1, hrest, h2, rfl, ?_, sb.trans s2⟩
      rw [List.take_add_one, hkv]
      have : (kv.1, es[i].val) = kv := by rw [hval]
      rw [this] at d2
      exact d2
    · subst e2
      refine wpAny_pure (hQ h' ?_ sb)
      have hi0 : es.size ≤ i0 := by
        rcases Nat.lt_or_ge i0 es.size with h | h
        · rw [List.drop_eq_getElem_cons (by simpa using h)] at hr
          cases hr
        · exact h
      rw [List.take_of_length_le (by omega)] at dd
      exact dd
theorem merged_kw {f : Value} {x : Sem Value} {pos : Pos} {Q : Addr → Shared → Prop}
    (h : wpAny (model prog w) A x (fun v s2 => ∃ a vs, v = .ref a ∧ (a == sysModules) = false ∧ a ≠ s.heap.objs.size ∧ s2.heap.DictOf (mixKind prog w) a vs ∧ s2.heap.DictOf (mixKind prog w) s.heap.objs.size [] ∧ vs.length ≤ sizeLine ∧
      ∀ h', h'.DictOf (mixKind prog w) s.heap.objs.size vs → Heap.SameBut s.heap.objs.size s2.heap h' → Q s.heap.objs.size { s2 with heap := h' }) E { s with heap := s.heap.push { cls := .type "dict", data := .dict #[] } }) :
    wpAny (model prog w) A (mergedKeywords f [(none, do let v ← x; standAt pos; pure v)]) Q E s := by
  unfold mergedKeywords
  refine wpAny_bind (wpAny_alloc ?_)
  dsimp only
  refine wpAny_bind (wpAny_holding ?_)
  rw [List.forIn_cons]
  refine wpAny_bind (wpAny_bind ?_)
  dsimp only
  refine wpAny_bind ?_
  rw [if_pos (show ([] : List (Str × Sem Value)).isEmpty = true from rfl)]
  refine wpAny_pure ?_
  refine wpAny_bind (wpAny_bind (wpAny_mono h (fun v s2 hv => ?_) fun _ _ z => z))
  obtain ⟨a, vs, rfl, hS, hne, ha, hd, hz, hq⟩ := hv
  refine wpAny_bind (wpAny_standAt (wpAny_pure ?_))
  refine wpAny_bind (wpAny_onRaise (wpAny_holding (wpAny_tryCatch (wpAny_onRaise (merge_new hS hne hd ha hz fun h' dd sb => ?_)))))
  refine wpAny_pure ?_
  dsimp only
  rw [List.forIn_nil]
  refine wpAny_pure ?_
  rw [if_pos (show ([] : List (Str × Sem Value)).isEmpty = true from rfl)]
  exact wpAny_pure (wpAny_pure (hq h' dd sb))
theorem kw_in {f : Value} {d : Addr} {ws : List (Str × Value)} {Q : List (Str × Value) → Shared → Prop} (hd : s.heap.DictOf (mixKind prog w) d (ws.map fun p => (Sum.inr p.1, p.2))) (h : Q ws s) : wpAny (model prog w) A (keywordsIn f d) Q E s := by
  obtain ⟨o, es, ep, ho, hc, hd2, hk, hp, hn⟩ := hd
  unfold keywordsIn
  refine wpAny_bind (wpAny_dictEntries ho hd2 ?_)
  rw [← Array.forIn_toList]
  refine wpAny_bind (wpAny_forIn_list _ (fun rest b s' => s' = s ∧ ∃ done more, ws = done ++ more ∧ b = done ∧ Pairs (mixKind prog w) rest (more.map fun p => (Sum.inr p.1, p.2))) _ (fun e rest b s' ⟨hs, done, more, e1, e2, hp⟩ => ?_) (fun b s' ⟨hs, done, more, e1, e2, hp⟩ => ?_) es.toList _ ⟨rfl, [], ws, rfl, rfl, hp⟩)
  · subst hs e2
    cases more with
    | nil => cases hp
    | cons p more =>
      cases hp with
      | cons a1 a2 a3 =>
        have a1 : keyIs (Sum.inr p.1) e.key = true := a1
        have a2 : e.val = p.2 := a2
        rcases keyIs_shape a1 with ⟨j, t, ek, _⟩ | ⟨y, t, ek, ev⟩
        · cases ek
        · cases ek
          rw [ev]
          dsimp only
          refine wpAny_pure ⟨rfl, _, more, ?_, rfl, a3⟩
          rw [e1, a2]
          simp
  · subst hs e2
    cases more with
    | nil =>
      rw [List.append_nil] at e1
      subst e1
      exact wpAny_pure h
    | cons p more => cases hp
theorem evalArgs_kwd {f : Value} {args : List (Bool × Sem Value)} {x : Sem Value} {Q : Args → Shared → Prop} (hpl : args.any (·.1) = false)
    (h : wpAny (model prog w) A (spliced args) (fun us s1 => wpAny (model prog w) A (mergedKeywords f [(none, x)]) (fun d s2 => ∃ ws, s2.heap.DictOf (mixKind prog w) d (ws.map fun p => (Sum.inr p.1, p.2)) ∧ Q ⟨us, ws⟩ s2) E s1) E s) :
    wpAny (model prog w) A (evalArgs f true args [(none, x)]) Q E s := by
  unfold evalArgs
  dsimp only
  split
  · rename_i y _ e
    exact absurd hpl (by simp)
  · refine wpAny_bind (wpAny_mono h (fun us s1 h1 => wpAny_bind (wpAny_pure (wpAny_holding ?_))) fun _ _ z => z)
    dsimp only
    rw [if_neg (by simp)]
    refine wpAny_bind (wpAny_mono h1 (fun d s2 ⟨ws, hd, hq⟩ => ?_) fun _ _ z => z)
    refine wpAny_bind (wpAny_pure ?_)
    exact wpAny_bind (wpAny_holding (kw_in hd (wpAny_pure hq)))
end
end My
namespace My
open PySem PySem.Spec PyProof.Rows L2
section
variable {M : Model} {A : Around} {E : Value → Shared → Prop} {s : Shared}
theorem callWith_kwd {f : Value} {first : List Value} {pos : Pos} {Q : Value → Shared → Prop} {P : Heap → Prop} {args : List (Bool × Sem Value)} {kws : List (Option Str × Sem Value)} (hst : (args.any (·.1) || kws.any (·.1.isNone)) = true)
    (hk : ∀ h, P h → ∃ k, (k = Keeper.frame ∨ k = Keeper.machine ∨ k = Keeper.boundFrame) ∧ PySem.W.Looks M h (keeperOf f) k)
    (h : wpAny M A (evalArgs f true args kws) (fun a s₁ => P s₁.heap ∧ wpAny M A (call f (first ++ a.pos) a.kw) Q E s₁) E s) : wpAny M A (callWith pos f first args kws) Q E s := by
  unfold callWith
  refine wpAny_bind (wpAny_holding (wpAny_mono h (fun a s₁ h₁ => wpAny_bind (wpAny_standAt ?_)) fun _ _ x => x))
  obtain ⟨k, hk', L⟩ := hk _ h₁.1
  simp only [hst]
  refine wpAny_bind (L.here ?_)
  have tail : ∀ {t : Sem Value}, wpAny M A t Q E s₁ → wpAny M A (t >>= fun r => holding [r] point >>= fun _ => pure r) Q E s₁ :=
    fun ht => wpAny_bind (wpAny_mono ht (fun r s₂ hr => wpAny_bind (wpAny_holding (wpAny_point (wpAny_pure hr)))) fun _ _ x => x)
  have marked (mk : Value) : wpAny M A (callMarked mk f (first ++ a.pos) a.kw) Q E s₁ := by unfold callMarked; exact Calls.wpAny_keep h₁.2
  rcases hk' with rfl | rfl | rfl <;> dsimp only <;> first | exact tail (marked _) | exact tail (wpAny_operating h₁.2)
end
theorem KV_un : ∀ {kvs : List (Str × V)} {vs : List (Key × Value)}, KV (kvs.map fun p => ((Sum.inr p.1 : Key), p.2)) vs → ∃ ws : List (Str × Value), vs = ws.map (fun p => (Sum.inr p.1, p.2)) ∧ KV kvs ws
  | [], vs, r => by
    cases r
    exact ⟨[], rfl, .nil⟩
  | p :: kvs, vs, r => by
    cases r with
    | @cons _ q _ qs a b =>
      obtain ⟨ws, e, r2⟩ := KV_un (kvs := kvs) b
      refine ⟨(p.1, q.2) :: ws, ?_, .cons ⟨rfl, a.2⟩ r2⟩
      rw [List.map_cons, ← e]
      show q :: qs = (Sum.inr p.1, q.2) :: qs
      rw [show (Sum.inr p.1 : Key) = q.1 from a.1]
section
variable {X : Cx} {CX : CXT} {k : Nat} {C f : Addr} {g : Str} {ps : List Str} {sp : Sp} {E : L2.St → XK} {p pos : Pos} {es : List Expr} {de : Expr} {kws : List Keyword} {tf td : TE} {t : TA} {pins : List (Addr × Obj)} {σ : L2.St} {H : Hp} {s : Shared} {n : Nat}
theorem run_makeKw {Q : VK} {us : List Value} {vs : List V} {kvs : List (Str × V)} {ws : List (Str × Value)} (M : Mk X.K C f) (F : FnRK X.prog X.w X.K X.mg X.base CX k f n ps sp) (hr : Room (k + 1) X.A) (hx : PassesAt CX X σ (E σ))
    (I : Inv X pins σ H s) (r : Vals vs us) (rk : KV kvs ws) (hl : vs.length + 1 = n) (hn : (kvs.map (·.1)).Nodup) (hbad : ∀ p ∈ kvs, p.1 ∉ ps) (hz : kvs.length ≤ sizeLine)
    (h : ∀ y dy d, H y = none → H dy = none → dy ≠ y → upd (upd H dy (.own y)) y (.ins C dy []) d = none → sp ((.ref y :: vs) ++ [.ref d]) (upd (upd (upd H dy (.own y)) y (.ins C dy [])) d (.dK (kvs.map fun p => (Sum.inr p.1, p.2)))) (fun v H2 => v = .non ∧ Q (.ref y) H2) (E σ)) :
    wpAny (model X.prog X.w) X.A (call (.ref C) us ws) (EP X pins σ Q) X.xe s := by
  have hq := fun d => h (s.heap.objs.size + 1) s.heap.objs.size d (I.hok.fresh (Nat.le_succ _)) (I.hok.fresh (Nat.le_refl _)) (Nat.ne_of_lt (Nat.lt_succ_self _))
  have I2 := Inv.made (C := C) I
  have r1 : Vals (V.ref (s.heap.objs.size + 1) :: vs) (Value.ref (s.heap.objs.size + 1) :: us) := .cons rfl r
  refine wpAny_call (make_map (f := f) I.kIn M.makes M.init (beq_iff_eq.mp M.fn) (codeAny_mono (F _ X.stack _ _ (Value.ref (s.heap.objs.size + 1) :: us) (V.ref (s.heap.objs.size + 1) :: vs) kvs ws _ (E σ) (hr.make C us ws)
    (I2.env0.make C us ws) r1 rk hl hn hbad hz hq) fun res s' hq' => ?_))
  cases res with
  | error er => exact hx pins _ _ er s' I2 hq'
  | ok fl =>
    cases fl with
    | ret u =>
      obtain ⟨v, H', I3, rv, ev, q3⟩ := I2.after hq'
      subst ev
      exact ⟨rv, ⟨V.ref (s.heap.objs.size + 1), H', I3, rfl, q3⟩⟩
    | next => exact hq'.elim
    | brk => exact hq'.elim
    | cont => exact hq'.elim
theorem upd_comm {H : Hp} {a b : Addr} {x y : HO} (h : a ≠ b) : upd (upd H a x) b y = upd (upd H b y) a x := by
  funext c
  by_cases h1 : c = a
  · subst h1
    rw [upd_same, upd_ne h, upd_same]
  · by_cases h2 : c = b
    · subst h2
      rw [upd_same, upd_ne h1, upd_same]
    · rw [upd_ne h2, upd_ne h1, upd_ne h1, upd_ne h2]
/-- e, .., **d: the values, behind them a new dict -/
def tKw (ps : List Str) (n : Nat) (t : TA) (td : TE) : TA := fun σ H Q => t σ H fun vs H1 => td σ H1 fun z H2 => ∃ (a : Addr) (kvs : List (Str × V)), z = .ref a ∧ Rd H2 a (.dK (kvs.map fun p => (Sum.inr p.1, p.2))) ∧
  vs.length + 1 = n ∧ (kvs.map (·.1)).Nodup ∧ (∀ p ∈ kvs, p.1 ∉ ps) ∧ ∀ d, H2 d = none → Q (vs ++ [.ref d]) (upd H2 d (.dK (kvs.map fun p => (Sum.inr p.1, p.2))))
/-- C(e, .., **d) -/
theorem pe_makeKw (M : Mk X.K C f) (F : FnRK X.prog X.w X.K X.mg X.base CX k f n ps sp) (hr : Room (k + 1) X.A) (hx : ∀ σ, PassesAt CX X σ (E σ)) (hf : PE X (.Name g p) tf) (ha : PA X es t) (hd : PE X de td)
    (hkw : backToKw pos (keywordEach kws X.env) = [(none, do let v ← eval de X.env; standAt pos; pure v)] := by rfl) (hpl : (backTo pos (starEach es X.env)).any (·.1) = false := by rfl) : PE X (.Call (.Name g p) es kws pos) (tMakeA C sp E tf (tKw ps n t td)) := by
  refine ⟨fun pins s σ H Q I h => wpAny_Call_Name_kw (thn (hf.run pins s σ H _ I h) fun u s0 ⟨c, H0, I0, rc, ec, q0⟩ => ?_)⟩
  subst ec
  obtain rfl : u = Value.ref C := rc
  rw [hkw]
  refine callWith_kwd (P := fun h => X.K.In h) (by rw [hpl]; rfl) (fun h => PySem.W.keeps_K M.kp h) (evalArgs_kwd hpl (thn (ha.run pos pins s0 σ H0 _ I0 q0) fun us s1 ⟨vs, H1, I1, r, q1⟩ => ?_))
  have Ip := ClX.pin_new (o := ({ cls := .type "dict", data := .dict #[] } : Obj)) (t' := s1.toks) I1 (fun b x e => Heap.get?_push_of_some _ e) (Nat.le_refl _) (Heap.get?_push_size s1.heap rfl) (fun v z => nomatch z)
  refine merged_kw (thn (hd.run _ _ σ H1 _ Ip q1) fun v s2 ⟨z, H2, I2, rz, a, kvs, ez, rd, hl, hn, hbad, hq⟩ => ?_)
  subst ez
  obtain rfl : v = Value.ref a := rz
  obtain ⟨hz, hS, wd, rel, dd⟩ := dk_rd I2.hok rd
  obtain ⟨ws, rfl, rk⟩ := KV_un rel
  rw [List.length_map] at hz
  have hpn := I2.pin (s1.heap.objs.size, ({ cls := .type "dict", data := .dict #[] } : Obj)) (List.mem_append_right _ (.head _))
  have hne : a ≠ s1.heap.objs.size := fun z => by
    have := hpn.2.1
    rw [← z] at this
    rcases rd with rd | ⟨_, rd⟩ <;> rw [rd] at this <;> cases this
  refine ⟨a, _, rfl, hS, hne, dd, ⟨_, #[], 0, hpn.1, ⟨rfl, rfl, rfl⟩, rfl, fun e he => by simp at he, .nil, List.nodup_nil⟩, by rw [List.length_map, ← L2.KV.length rk]; exact hz, fun h' d2 sb => ⟨ws, d2, ?_⟩⟩
  have I2' := ClX.unpin I2
  have lt : ∀ {b : Addr} {o : Obj}, s1.heap.get? b = some o → b ≠ s1.heap.objs.size := fun e => Nat.ne_of_lt (Heap.lt_size e)
  have I3 : Inv X pins σ H2 { s2 with heap := h', toks := s2.toks } := I2'.turned (it := s1.heap.objs.size) (fun b o hb e => by rw [sb.2 b hb]; exact e) hpn.2.1 (fun z => hpn.2.2.1 z) (.inr I1.sz)
    (fun x c e => by
      obtain ⟨v, o, ho, _⟩ := I1.cell x c e
      exact lt ho) (fun p hp => lt (I1.pin p hp).1)
  refine ⟨I3.kIn, run_makeKw M F hr (hx σ) I3 r rk hl hn hbad hz fun y dy d hy hdy hne hd' => ?_⟩
  have e1 : d ≠ y := fun z => by subst z; rw [upd_same] at hd'; cases hd'
  rw [upd_ne e1] at hd'
  have e2 : d ≠ dy := fun z => by subst z; rw [upd_same] at hd'; cases hd'
  rw [upd_ne e2] at hd'
  have z := hq d hd' y dy (by rw [upd_ne e1.symm]; exact hy) (by rw [upd_ne e2.symm]; exact hdy) hne
  rw [upd_comm e2, upd_comm e1] at z
  exact z
end
end My
namespace My
open PySem PySem.Spec PyProof.Rows L2
def dkD (μ : Store) : D → Option (List D × List D)
  | .dic false ks xs => some (ks, xs)
  | .ref k => match μ[k]? with
    | some (.dic false ks xs) => some (ks, xs)
    | _ => none
  | _ => none
def namesOf : List D → Option (List Codes)
  | [] => some []
  | .str l :: ds => (namesOf ds).map (l :: ·)
  | _ => none
theorem namesOf_eq : ∀ {ds : List D} {ns : List Codes}, namesOf ds = some ns → ds = ns.map D.str
  | [], ns, h => by cases h; rfl
  | .str l :: ds, ns, h => by
    obtain ⟨m, e, rfl⟩ := Option.map_eq_some_iff.mp h
    rw [namesOf_eq e]
    rfl
theorem keysD_str : ∀ ns : List Codes, keysD (ns.map D.str) = some (ns.map fun l => (Sum.inr (SX.S l) : Key))
  | [] => rfl
  | l :: ns => by
    rw [List.map_cons, keysD, keysD_str ns]
    rfl
theorem zip_names : ∀ (ns : List Codes) (ws : List V), ((ns.map SX.S).zip ws).map (fun p => ((Sum.inr p.1 : Key), p.2)) = (ns.map fun l => (Sum.inr (SX.S l) : Key)).zip ws
  | [], _ => by simp
  | _ :: _, [] => by simp
  | l :: ns, w :: ws => by
    rw [List.map_cons, List.map_cons, List.zip_cons_cons, List.zip_cons_cons, List.map_cons, zip_names ns ws]
def mKw (n : Nat) (ps : List Str) (a : Mo (List D)) (kd : Mo D) : Mo (List D) := fun env μ => (a env μ).bind fun ds μ1 => (kd env μ1).nr.bind fun y μ2 => match dkD μ2 y with
  | some r => (match namesOf r.1 with
    | some ns => if ds.length + 1 = n ∧ ns.Nodup ∧ (ns.all fun l => !ps.contains (SX.S l)) = true then .ok (ds ++ [.dic false (ns.map D.str) r.2]) μ2 else .no
    | none => .no)
  | none => .no
section
variable {K : PySem.W.Frag} {A : List Addr} {M : Addr → Prop} {μ : Store} {H : Hp} {ta td : TE} {ma md : Mo D} {tas : TA} {mas : Mo (List D)} {W : WX}
theorem dkD_rep {d : D} {v : V} {r : List D × List D} {ns : List Codes} (ok : Ok K A M μ H) (rx : RepD K A M H v d) (e : dkD μ d = some r) (hn : namesOf r.1 = some ns) : ∃ p vs, v = .ref p ∧ Rd H p (.dK ((ns.map fun l => (Sum.inr (SX.S l) : Key)).zip vs)) ∧ ns.length = vs.length ∧ RepL K A M H vs r.2 := by
  have hk : ∀ ks, keysD r.1 = some ks → ks = ns.map fun l => (Sum.inr (SX.S l) : Key) := fun ks h => by
    rw [namesOf_eq hn, keysD_str] at h
    exact (Option.some.inj h).symm
  have e2 : dkv μ d = some (ns.map (fun l => (Sum.inr (SX.S l) : Key)), r.2) := by
    unfold dkD at e
    split at e
    · rename_i ks xs
      cases e
      have q : dkv μ (.dic false ks xs) = (keysD ks).map fun q => (q, xs) := rfl
      have hn2 : ks = ns.map D.str := namesOf_eq hn
      rw [q, hn2, keysD_str]
      rfl
    · rename_i k
      split at e
      · rename_i ks xs hc
        cases e
        have q : dkv μ (.ref k) = (keysD ks).map fun q => (q, xs) := by
          unfold dkv
          simp only [hc]
        have hn2 : ks = ns.map D.str := namesOf_eq hn
        rw [q, hn2, keysD_str]
        rfl
      · cases e
    · cases e
  obtain ⟨p, vs, h1, h2, h3, h4⟩ := dkv_rep ok rx e2
  exact ⟨p, vs, h1, h2, by simpa using h3, h4⟩
theorem xs_kw {n : Nat} {ps : List Str} (h : EvSX K W tas mas) (h2 : EvD K td md) : EvSX K W (tKw ps n tas td) (mKw n ps mas md) := by
  refine ⟨fun A M μ H σ env ds μ' ok en e Q q => ?_, fun A M μ H σ env c ns xs μ' ok en e q Q => ?_⟩
  · obtain ⟨ds0, μ1, e1, e⟩ := Rs.bind_ok e
    obtain ⟨y, μ2, e2, e⟩ := Rs.bind_ok e
    split at e
    · rename_i r hr
      split at e
      · rename_i ns hns
        split at e
        · rename_i hc
          cases e
          refine h.ok A M μ H σ env ds0 μ1 ok en e1 _ fun vs H1 A1 f1 ok1 r1 => ?_
          refine h2 A1 M μ1 H1 σ env y _ ok1 (en.go f1.go) (Rs.nr_ok e2) _ fun v H2 A2 f2 ok2 r2 => ?_
          obtain ⟨p, ws, rfl, hp, hl, rr⟩ := dkD_rep ok2 r2 hr hns
          have hz := zip_names ns ws
          refine ⟨p, (ns.map SX.S).zip ws, rfl, by rw [hz]; exact hp, by rw [r1.len]; exact hc.1, ?_, ?_, fun d hd => ?_⟩
          · rw [List.map_fst_zip (by rw [List.length_map, hl]; exact Nat.le_refl _)]
            exact List.pairwise_map.mpr (hc.2.1.imp fun h z => h (SX.S_inj z))
          · intro p' hp' z
            obtain ⟨l, hl', e⟩ := List.mem_map.mp (List.of_mem_zip hp').1
            have := List.all_eq_true.mp hc.2.2 l hl'
            rw [e, List.contains_iff_mem.mpr z] at this
            cases this
          · rw [hz]
            refine q _ _ A2 ((f1.trans f2).trans (.newO hd)) (ok2.new hd) ?_
            refine (RepL.go (f2.trans (.newO hd)).go r1).app (.one ⟨d, ws, rfl, ⟨⟨.inl ?_, fun z => nomatch z⟩, ok2.fresh hd⟩, ⟨by rw [List.length_map]; exact hl, ?_⟩, RepL.go (Fut.newO hd).go rr⟩)
            · rw [upd_same]
              show some _ = some (dicO false (ns.map D.str) ws)
              unfold dicO
              rw [keysD_str]
              rfl
            · show (keysD (ns.map D.str)).isSome = true
              rw [keysD_str]
              rfl
        · cases e
      · cases e
    · cases e
  · rcases Rs.bind_rz e with e | ⟨ds0, μ1, e1, e⟩
    · exact h.rz A M μ H σ env c ns xs μ' ok en e q _
    · rcases Rs.bind_rz e with e | ⟨y, μ2, e2, e⟩
      · exact (Rs.nr_rz e).elim
      · split at e
        · split at e
          · split at e <;> cases e
          · cases e
        · cases e
end
section
variable {P : Program} {w : World} {K : PySem.W.Frag} {mg : Str → Option Value} {base : Heap}
theorem calKw_DX {a : Addr} {x q : Str} {st : Stmt} {kvs : List (Str × V)} {N ps : List Str} {pd : Str} {ka : Arg} {k nl : Nat} {body : MS} (F : DfA K a x q st [] kvs) (S : FnScope N (ps ++ [pd]) (defScope st)) (hN : N.length = ps.length + 1 + nl)
    (h1 : (defArgs st).posonlyargs = []) (h2 : (defArgs st).args.map (·.arg) = ps) (h3 : (defArgs st).kwonlyargs = []) (h4 : (defArgs st).vararg = none) (h5 : (defArgs st).kwarg = some ka) (hpd : ka.arg = pd) (hnd : ps.Nodup)
    (hb : ∀ (cdv : Value) (A : Around) (outer : List Env) (s : Shared) (H : Hp) (E : XK), Room k (A.deeper (envOfC q (defScope st) s.heap.objs.size a cdv)) →
      ∃ t, PSs (cxOf (L2.CX P w) P w K mg base N q (defScope st) a cdv A outer s H E) (defBody st) t ∧ StD K (some fun cls d _ H => E cls d H) t body) : FnRK P w K mg base (L2.CX P w) (k + 1) a ps.length ps (modSpX K (fnDX (ps.length + 1) nl body)) := by
  obtain ⟨fd, F⟩ := F.ex
  obtain ⟨oc, od, dV, kV, doc, pm, an, cdv, ct, osl, rfl, lk, hcd, hD, _⟩ := F.ex
  rcases hD with ⟨_, rfl⟩ | ⟨z, _⟩
  · refine fn_kw lk hcd S StX.cxUp h1 h2 h3 h4 h5 hpd hnd fun A outer s H vs Q E hr h => ?_
    obtain ⟨t, h1, h2⟩ := hb cdv A outer s H E hr
    exact ⟨t, h1, run_DX hN h h2⟩
  · exact absurd rfl z
end
end My
namespace My
open PySem PySem.Spec PyProof.Rows L2
section
variable {K : PySem.W.Frag} {W : Option WX} {A A' : List Addr} {M : Addr → Prop} {H H' : Hp} {p : Addr} {t1 : TS} {s1 : MS} {wi : TI} {g : TG} {js : List Nat} {tg : Tg} {td : TE} {md : Mo D}
theorem t_for_at {μ1 : Store} {σ : L2.St} {env : En} {items : List D} {gd : Gd} {E : Ends} (hi : ∀ R : It → Hp → Prop, (∀ J H1 A1, Fut A H A1 H1 → Ok K A1 M μ1 H1 → ItOkD K J items gd A1 M H1 → R J H1) → wi σ H R) (hg : GD K g js tg) (hb : StD K W t1 s1)
    (en : EnvRep K A M H σ env) (p : Post K W A M H E (forGo gd tg s1 items env μ1)) : tFor wi g t1 E σ H := by
  refine hi _ fun J H1 A1 f1 ok1 jt => ?_
  have hm : ∀ a, M a → M a ∨ H1 a = none := fun a h => .inl h
  refine ⟨fun i n σ' H' => n = items.length - i ∧ i ≤ items.length ∧ ∃ A' μ' env', Fut A1 H1 A' H' ∧ Ok K A' M μ' H' ∧ EnvRep K A' M H' σ' env' ∧ Post K W A' M H' E (forGo gd tg s1 (items.drop i) env' μ'), ⟨items.length, by simp, Nat.zero_le _, A1, μ1, env, .refl, ok1, en.go f1.go, Post.mono f1 p⟩, ?_⟩
  rintro i n σ' H' ⟨rfl, hle, A', μ', env', fu, ok', en', p'⟩
  by_cases hlt : i < items.length
  · have hget : items[i]? = some items[i] := List.getElem?_eq_getElem hlt
    rw [List.drop_eq_getElem_cons hlt] at p'
    unfold forGo at p'
    split at p'
    · rename_i hgd
      cases e1 : tg items[i] env' with
      | none => rw [e1] at p'; exact p'.elim
      | some env1 =>
        rw [e1] at p'
        dsimp only at p'
        refine .inr ⟨jt.go i A' M μ' H' hm fu ok' hgd hlt, fun σ2 H2 => ∃ A2 μ2 env2, Fut A1 H1 A2 H2 ∧ Ok K A2 M μ2 H2 ∧ EnvRep K A2 M H2 σ2 env2 ∧ Post K W A2 M H2 E (forGo gd tg s1 (items.drop (i + 1)) env2 μ2), fun σ2 H2 hn => ⟨items.length - (i + 1), by omega, rfl, by omega, hn⟩, fun x H'' hy => ?_⟩
        obtain ⟨ex, rx⟩ := jt.yld i A' M μ' H' x H'' _ hm fu ok' hgd hget hy
        have fe : Fut A' H' A' H'' := .ex ex
        obtain ⟨σ3, en3, _, q3⟩ := hg A' M H'' x _ σ' env' env1 (en'.go fe.go) rx e1
        refine q3 _ (hb A' M μ' H'' σ3 env1 _ (ok'.ex ex) en3 ?_)
        cases e2 : s1 env1 μ' with
        | nx en4 m4 => rw [e2] at p'; exact fun σ5 H5 A5 f5 ok5 en5 => ⟨A5, m4, en4, fu.trans (fe.trans f5), ok5, en5, Post.mono (fe.trans f5) p'⟩
        | ct en4 m4 => rw [e2] at p'; exact fun σ5 H5 A5 f5 ok5 en5 => ⟨A5, m4, en4, fu.trans (fe.trans f5), ok5, en5, Post.mono (fe.trans f5) p'⟩
        | bk en4 m4 => rw [e2] at p'; exact fun σ5 H5 A5 f5 ok5 en5 => p' σ5 H5 A5 (fe.trans f5) ok5 en5
        | rt d4 m4 => rw [e2] at p'; exact fun v H5 A5 f5 ok5 r5 => p' v H5 A5 (fe.trans f5) ok5 r5
        | rz => rw [e2] at p'; exact PostR.mono fe p'
        | no => rw [e2] at p'; exact p'.elim
    · exact p'.elim
  · have : i = items.length := by omega
    subst this
    rw [List.drop_of_length_le (Nat.le_refl _)] at p'
    unfold forGo at p'
    split at p'
    · rename_i hgd
      exact .inl ⟨jt.stop A' M μ' H' hm fu ok' hgd, p' σ' H' A' .refl ok' en'⟩
    · exact p'.elim
theorem unlock_fut {od : Obj} {kvs : List (Key × V)} (h : H p = some (.dK kvs)) (no : ¬ AM A M p) (fu : Fut A (upd H p (.frz od (.dK kvs))) A' H') : H' p = some (.frz od (.dK kvs)) ∧ LkS A' M p kvs H' (upd H' p (.dK kvs)) ∧ Fut A H A' (upd H' p (.dK kvs)) := by
  have hlk : H' p = some (.frz od (.dK kvs)) := fu.pr p _ (fun z => no (.inl z)) upd_same
  have no' : ¬ AM A' M p := fun z => by
    rcases z with z | z
    · rcases fu.new p z with z | z
      · exact no (.inl z)
      · rw [upd_same] at z; cases z
    · exact no (.inr z)
  refine ⟨hlk, LkS.unlock hlk no', fu.pre, fun a ha => ?_, fun a o ha ho => ?_⟩
  · rcases fu.new a ha with z | z
    · exact .inl z
    · by_cases y : a = p
      · rw [y, upd_same] at z; cases z
      · rw [upd_ne y] at z; exact .inr z
  · by_cases y : a = p
    · rw [y] at ho ⊢
      rw [upd_same, ← h, ho]
    · rw [upd_ne y]
      exact fu.pr a o ha (by rw [upd_ne y]; exact ho)
def itmL (ks xs : List D) : List D := List.zipWith (fun k x => D.tup [k, x]) ks xs
theorem it_items {od : Obj} {ks xs : List D} {q : List Key} {vs : List V} (hq : keysD ks = some q) (hl : q.length = vs.length) (h : H p = some (.frz od (.dK (q.zip vs)))) (no : ¬ AM A M p) (r : RepL K A M H vs xs) : ItOkD K (Iti p od (q.zip vs)) (itmL ks xs) none A M H := by
  have lq := keysD_len hq
  have lv := r.len
  have hz : (q.zip vs).length = (itmL ks xs).length := by
    unfold itmL
    rw [List.length_zip, List.length_zipWith]
    omega
  have st : ∀ {A' : List Addr} {H' : Hp}, Fut A H A' H' → H' p = some (.frz od (.dK (q.zip vs))) := fun fu => fu.pr p _ (fun z => no (.inl z)) h
  refine ⟨fun i A' M' μ' H' hm fu ok _ hi => ⟨st fu, by omega⟩, fun i A' M' μ' H' x H'' d hm fu ok _ hi hy => ?_, fun A' M' μ' H' hm fu ok _ => ⟨st fu, by omega⟩⟩
  obtain ⟨T, k, v, hk, rfl, hT, rfl⟩ := hy
  unfold itmL at hi
  rw [List.getElem?_zipWith] at hi
  cases h1 : ks[i]? with
  | none => rw [h1] at hi; cases hi
  | some kd =>
    cases h2 : xs[i]? with
    | none => rw [h1, h2] at hi; cases hi
    | some xd =>
      rw [h1, h2] at hi
      obtain rfl : D.tup [kd, xd] = d := by simpa using hi
      obtain ⟨k', e1, e2⟩ := keysD_get hq h1
      have e := hk
      rw [List.getElem?_zip_eq_some] at e
      rw [e1] at e
      obtain ⟨ek, ev⟩ := e
      cases ek
      have g := zip_carry (M := M) hm fu
      obtain ⟨v', e3, r3⟩ := (RepL.go g r).get h2
      rw [ev] at e3
      cases e3
      exact ⟨Evl.Ex.new hT, T, _, rfl, .of upd_same (ok.fresh hT), _, _, rfl, keyD_of e2, .one (RepD.go (Fut.newO hT).go r3)⟩
end
end My
namespace My
open PySem PySem.Spec PyProof.Rows L2
def tLt (a b : Codes) : Bool := decide (a < b)
theorem tLt_swo : SrtO.Swo tLt := by
  constructor
  · intro x y h
    exact decide_eq_false (List.lt_asymm (of_decide_eq_true h))
  · intro x y z h g
    have h1 : x ≤ y := List.not_lt.mp (of_decide_eq_false h)
    have h2 : y ≤ z := List.not_lt.mp (of_decide_eq_false g)
    exact decide_eq_false (List.not_lt.mpr (List.le_trans h1 h2))
theorem tLt_eqv {x y : Codes} : SrtO.eqv tLt x y = true ↔ x = y := by
  rw [SrtO.eqv_iff]
  constructor
  · rintro ⟨h, g⟩
    exact List.le_antisymm (List.not_lt.mp (of_decide_eq_false g)) (List.not_lt.mp (of_decide_eq_false h))
  · rintro rfl
    exact ⟨decide_eq_false (List.lt_irrefl _), decide_eq_false (List.lt_irrefl _)⟩
theorem tLt_stb {ys ks : List Codes} (h : ys.Perm ks) : SrtO.Stb tLt ys ks := by
  refine ⟨h, fun x => ?_⟩
  have e : ∀ l : List Codes, l.filter (SrtO.eqv tLt x) = List.replicate (l.filter (SrtO.eqv tLt x)).length x := fun l => by
    refine List.eq_replicate_iff.mpr ⟨rfl, fun b hb => ?_⟩
    exact (tLt_eqv.mp (List.mem_filter.mp hb).2).symm
  rw [e ys, e ks, (h.filter _).length_eq]
theorem rising_pw : ∀ (r : List Codes) (p : Codes), risingS (SX.S p) (r.map SX.S) = true → SrtO.Srtd tLt (p :: r)
  | [], p, _ => List.pairwise_singleton _ _
  | x :: r, p, h => by
    have h : (!ltCps x.toArray.toList p.toArray.toList && risingS (SX.S x) (r.map SX.S)) = true := h
    rw [List.toList_toArray, List.toList_toArray, Bool.and_eq_true] at h
    obtain ⟨h1, h2⟩ := h
    have ih := rising_pw r x h2
    have hx : tLt x p = false := by
      rw [ltCps_eq] at h1
      unfold tLt
      simpa using h1
    refine List.pairwise_cons.mpr ⟨fun y hy => ?_, ih⟩
    rcases List.mem_cons.mp hy with rfl | hy
    · exact hx
    · exact tLt_swo.tr p x y hx ((List.pairwise_cons.mp ih).1 y hy)
theorem srtd_of : ∀ {ys : List Codes}, sortedS (ys.map SX.S) = true → SrtO.Srtd tLt ys
  | [], _ => List.Pairwise.nil
  | x :: r, h => rising_pw r x h
def sortT (ns : List Codes) : List Codes := sortO tLt ns
theorem sortT_uniq {ys ks : List Codes} (h : ys.Perm ks) (hs : sortedS (ys.map SX.S) = true) : ys = sortT ks := sortO_uniq tLt_swo (srtd_of hs) (tLt_stb h)
def rSortedDk : List V → Hp → VK → Prop := fun xs H Q => ∃ (a : Addr) (kvs : List (Key × V)) (ks : List Str), xs = [.ref a] ∧ Rd H a (.dK kvs) ∧ kvs.map (·.1) = ks.map Sum.inr ∧ ks.length < 64 ∧ ∀ ys p, ys.Perm ks → sortedS ys = true → H p = none → Q (.ref p) (upd H p (.lst (ys.map V.str)))
def rSortedU (K : PySem.W.Frag) : List V → Hp → VK → Prop := fun xs H Q => rSortedK K xs H Q ∨ rSortedDk xs H Q
theorem call_sortedU {X : Cx} {K : PySem.W.Frag} (hc : X.calm = true) (hK : X.K = K := by rfl) : CallR X (.builtin "sorted") (rSortedU K) := hK ▸ (cr_sortedA (X := X)).or (call_sortedD hc)
def lSortedU (μ : Store) (ds : List D) : Option (List D) := match ds with
  | [x] => match dkD μ x with
    | some r => (match namesOf r.1 with
      | some ns => if ns.length < 64 then some ((sortT ns).map D.str) else none
      | none => none)
    | none => lSorted μ ds
  | _ => lSorted μ ds
section
variable {K : PySem.W.Frag} {A : List Addr} {M : Addr → Prop} {H : Hp}
theorem cc_sortedU : CcD K (rSortedU K) lSortedU := fun A M μ H vs ds es ok r e Q f => by
  unfold lSortedU at e
  split at e
  · rename_i x
    split at e
    · rename_i q hq
      split at e
      · rename_i ns hns
        split at e
        · rename_i hl
          cases e
          obtain ⟨v, r', rfl, h1, rfl⟩ := r
          obtain ⟨p, vs, rfl, hp, hlen, rr⟩ := dkD_rep ok h1 hq hns
          refine .inr ⟨p, _, ns.map SX.S, rfl, hp, ?_, by rw [List.length_map]; exact hl, fun ys p2 hy hs hp2 => ?_⟩
          · rw [List.map_fst_zip (by rw [List.length_map, hlen]; exact Nat.le_refl _), List.map_map]
            rfl
          · have e1 : ys = (ys.map fun x => x.cps.toList).map SX.S := by
              rw [List.map_map]
              have : ∀ l : List Str, l = l.map (SX.S ∘ fun x : Str => x.cps.toList) := fun l => by
                induction l with
                | nil => rfl
                | cons x l ih => rw [List.map_cons, ← ih]; exact congrArg (· :: l) (SX.S_tl x).symm
              exact this ys
            have h2 : (ys.map fun x : Str => x.cps.toList).Perm ns := by
              have := hy.map (fun x : Str => x.cps.toList)
              rw [List.map_map] at this
              have e2 : ns.map ((fun x : Str => x.cps.toList) ∘ SX.S) = ns := by
                have : ∀ l : List Codes, l.map ((fun x : Str => x.cps.toList) ∘ SX.S) = l := fun l => by
                  induction l with
                  | nil => rfl
                  | cons x l ih => rw [List.map_cons, ih]; rfl
                exact this ns
              rwa [e2] at this
            rw [e1] at hs ⊢
            rw [sortT_uniq h2 hs, List.map_map]
            exact f p2 _ hp2 (repL_strs _)
        · cases e
      · cases e
    · exact .inl (cc_sorted A M μ H vs _ es ok r e Q f)
  · exact .inl (cc_sorted A M μ H vs _ es ok r e Q f)
end
end My
namespace My
open PySem PySem.Spec PyProof.Rows L2
section
variable {X : Cx}
def rIxI (K : PySem.W.Frag) (C g : Addr) (sp : Sp) : R2 := fun x y H Q => ∃ a dx vs, x = .ref a ∧ H a = some (.ins C dx vs) ∧ (PySem.W.findIn K (.ref C) "__getitem__" = some (some (.ref g)) ∧ PySem.W.fnIn K g = true ∧ PySem.W.isFn K (.ref g) = true) ∧ sp [x, y] H Q E0
theorem pe_ixI {K : PySem.W.Frag} {n : Nat} {C g : Addr} {sp : Sp} {a b : Expr} {pos : Pos} {ta tb : TE} (F : FnR X.prog X.w X.K X.mg X.base CX0 n g sp) (hr : Room (n + 1) X.A) (ha : PE X a ta) (hb : PE X b tb)
    (hsl : ∀ ov iv, subscripted b true ov iv = runValue (.builtin "lifetime.subscript" ⟨[ov, iv], []⟩)) (hK : X.K = K := by rfl) : PE X (.Subscript a b pos) (tOp (rIxI K C g sp) ta tb) := by
  subst hK
  refine ⟨fun pins s σ H Q I h => ?_⟩
  refine Subscript_ (binT ha hb I h fun v u s2 x y H2 I2 rx ry q => ?_)
  obtain ⟨c, dx, vs, rfl, hc, ⟨h1, h2, h3⟩, q⟩ := q
  cases (show v = Value.ref c from rx)
  obtain ⟨od, J⟩ := ins_inst I2 hc
  obtain ⟨m, hF⟩ := I2.fr
  refine PySem.W.sub_K hF I2.ok.mod.kin J h1 h2 h3 ?_ (hsl _ _)
  refine wpAny_call (codeAny_mono (F X.A.in1 X.stack s2 H2 [.ref c, u] [.ref c, y] Q E0 hr.in1 I2.env0.in1 (.cons rfl (.cons ry .nil)) q) fun res s' hq => ?_)
  cases res with
  | error er => exact hq.elim
  | ok fl =>
    cases fl with
    | ret u => exact I2.after hq
    | next => exact hq.elim
    | brk => exact hq.elim
    | cont => exact hq.elim
end
end My
namespace My
open PySem PySem.Spec PyProof.Rows L2
section
variable {K : PySem.W.Frag} {W : Option WX} {A A' : List Addr} {M : Addr → Prop} {H H' : Hp} {t : TS} {s : MS} {ta tb td te tx : TE} {ma mb md my mx : Mo D} {tas : TA} {mas : Mo (List D)}
def finV (n : Nat) (μ : Store) : Option D → Option (Option D)
  | none => some none
  | some d => match finD n d μ with
    | .ok d' _ => some (some d')
    | _ => none
def finE (n : Nat) (μ : Store) : En → Option En
  | [] => some []
  | x :: env => match finV n μ x, finE n μ env with
    | some y, some r => some (y :: r)
    | _, _ => none
def sBlk (s : MS) : MS := fun env μ => match s env μ with
  | .nx env' μ' => (match finE μ.length μ' env' with
    | some env2 => .nx env2 (μ'.take μ.length)
    | none => .no)
  | .rt d μ' => (match finD μ.length d μ' with
    | .ok d' μ2 => .rt d' μ2
    | _ => .no)
  | _ => .no
theorem finE_rep {μ' : Store} {n : Nat} (f : Fut A H A' H') (ok0 : A.length = n) (ok : Ok K A' M μ' H') : ∀ {env env2 : En} {σ : L2.St}, EnvRep K A' M H' σ env → finE n μ' env = some env2 → EnvRep K A M H' σ env2
  | [], env2, σ, r, e => by cases e; cases r; exact .nil
  | x :: env, env2, σ, r, e => by
    cases r with
    | @cons v _ vs _ a b =>
      unfold finE at e
      split at e
      · rename_i y r h1 h2
        cases e
        refine .cons ?_ (finE_rep f ok0 ok b h2)
        cases x with
        | none => cases h1; cases v <;> first | trivial | exact a
        | some d =>
          unfold finV at h1
          dsimp only at h1
          split at h1
          · rename_i d' μ2 h3
            cases h1
            cases v with
            | none => exact a.elim
            | some v => exact (fin_rep f ok0 ok a h3).2.2
          · cases h1
      · cases e
theorem t_blk (h : StD K W t s) : StD K W t (sBlk s) := fun A M μ H σ env E ok en p => by
  refine h A M μ H σ env E ok en ?_
  unfold sBlk at p
  cases e : s env μ with
  | nx env' μ' =>
    rw [e] at p
    dsimp only at p
    split at p
    · rename_i env2 h2
      intro σ' H' A' fu ok' en'
      have r := finE_rep fu ok.len ok' en' h2
      obtain ⟨B, rfl⟩ := fu.pre
      exact p σ' H' A ⟨⟨[], by simp⟩, fun a h => .inl h, fu.pr⟩ (by rw [← ok.len]; exact ok'.cellDrop) r
    · exact p.elim
  | rt d μ' =>
    rw [e] at p
    dsimp only at p
    split at p
    · rename_i d' μ2 h2
      intro v H' A' fu ok' r
      obtain ⟨z1, z2, z3⟩ := fin_rep fu ok.len ok' r h2
      exact p v H' A z1 z2 z3
    · exact p.elim
  | bk => rw [e] at p; exact p.elim
  | ct => rw [e] at p; exact p.elim
  | rz => rw [e] at p; exact p.elim
  | no => rw [e] at p; exact p.elim
def mMethCP (c : String) (f : List D → Store → Rs D) (o : Mo D) (a : Mo (List D)) : Mo D := fun env μ => (o env μ).bind fun x μ1 => match x with
  | .cls c' => if c' = c then (a env μ1).bind fun ds μ2 => f (.cls c :: ds) μ2 else .no
  | _ => .no
theorem d_methCPX {E : XK} {c : String} {f : List D → Store → Rs D} (h : EvD K ta ma) (h2 : EvS K tas mas) : EvD K (ClX.tCMeth (He.ga K c) (modSpX K f) E ta tas) (mMethCP c f ma mas) := fun A M μ H σ env d μ' ok en e Q q => by
  obtain ⟨x, μ1, e1, e2⟩ := Rs.bind_ok e
  split at e2
  · rename_i c'
    split at e2
    · rename_i hc
      subst hc
      obtain ⟨ds, μ2, e3, e4⟩ := Rs.bind_ok e2
      refine h A M μ H σ env _ μ1 ok en e1 _ fun v H1 A1 f1 ok1 r1 => ⟨r1, ?_⟩
      refine h2 A1 M μ1 H1 σ env ds μ2 ok1 (en.go f1.go) e3 _ fun vs H2 A2 f2 ok2 r2 => ?_
      exact .inl ⟨A2, M, μ2, .cls c' :: ds, d, μ', ok2, ⟨_, _, rfl, rfl, r2⟩, e4, fun v H3 A3 f3 ok3 r3 => q v H3 A3 ((f1.trans f2).trans f3) ok3 r3⟩
    · cases e2
  · cases e2
def mIxO (ct : CTab) (c : String) (f : List D → Store → Rs D) (a b : Mo D) : Mo D := fun env μ => (a env μ).bind fun x μ1 => (b env μ1).bind fun y μ2 => match clsOf μ2 x with
  | some (c', _, _) => if c' = c then f [x, y] μ2 else .no
  | none => .no
theorem d_ixO {ct : CTab} {c : String} {f : List D → Store → Rs D} (G : itmB K c = true) (h : EvD K ta ma) (h2 : EvD K tb mb) : EvD K (tOp (rIxI K (He.ga K c) (He.ma K (He.ga K c) "__getitem__") (modSp K f)) ta tb) (mIxO ct c f ma mb) := fun A M μ H σ env d μ' ok en e Q q => by
  obtain ⟨x, μ1, e1, e3⟩ := Rs.bind_ok e
  obtain ⟨y, μ2, e2, e4⟩ := Rs.bind_ok e3
  split at e4
  · rename_i c' ns ds hc
    split at e4
    · rename_i hcc
      subst hcc
      refine h A M μ H σ env x μ1 ok en e1 _ fun v H1 A1 f1 ok1 r1 => ?_
      refine h2 A1 M μ1 H1 σ env y μ2 ok1 (en.go f1.go) e2 _ fun u H2 A2 f2 ok2 r2 => ?_
      have r1' := RepD.go f2.go r1
      obtain ⟨a, dx, vs, rfl, h1, hl, r3⟩ := clsOf_rep ok2 r1' hc
      unfold itmB at G
      simp only [Bool.and_eq_true, decide_eq_true_eq] at G
      exact ⟨a, dx, _, rfl, h1, G, A2, M, μ2, [x, y], d, μ', ok2, ⟨_, _, rfl, r1', .one r2⟩, e4, fun v H3 A3 f3 ok3 r3 => q v H3 A3 ((f1.trans f2).trans f3) ok3 r3⟩
    · cases e4
  · cases e4
def mDGet (md my mx : Mo D) : Mo D := fun env μ => (md env μ).bind fun d μ1 => (my env μ1).bind fun y μ2 => (mx env μ2).bind fun z μ3 => match dkv μ1 d, dkv μ3 d, keyD y with
  | some _, some r, some k => .ok ((getK r.1 r.2 k).getD z) μ3
  | _, _, _ => .no
theorem d_dget {ty : TE} (h : EvD K td md) (h2 : EvD K ty my) (h3 : EvD K tx mx) : EvD K (tDGet2 td ty tx) (mDGet md my mx) := fun A M μ H σ env d μ' ok en e Q q => by
  obtain ⟨x, μ1, e1, e⟩ := Rs.bind_ok e
  obtain ⟨y, μ2, e2, e⟩ := Rs.bind_ok e
  obtain ⟨z, μ3, e3, e⟩ := Rs.bind_ok e
  split at e
  · rename_i r1 r k hd1 hd3 hk
    cases e
    refine h A M μ H σ env x μ1 ok en e1 _ fun v H1 A1 f1 ok1 rr1 => ?_
    obtain ⟨p, vs, rfl, hp, _, _⟩ := dkv_rep ok1 rr1 hd1
    refine ⟨p, rfl, .inl ⟨_, hp⟩, ?_⟩
    refine h2 A1 M μ1 H1 σ env y μ2 ok1 (en.go f1.go) e2 _ fun u H2 A2 f2 ok2 r2 => ?_
    refine h3 A2 M μ2 H2 σ env z _ ok2 (en.go (f1.trans f2).go) e3 _ fun w H3 A3 f3 ok3 r3 => ?_
    obtain ⟨p', vs', ep, hp', hl, rr⟩ := dkv_rep ok3 (RepD.go (f2.trans f3).go rr1) hd3
    cases ep
    cases keyD_rep hk r2
    have hg := valV_get hl rr k
    cases e5 : getK r.1 r.2 k with
    | none =>
      refine ⟨none, hg.2 e5 ▸ DGet.kR hp', q w H3 A3 ((f1.trans f2).trans f3) ok3 ?_⟩
      rw [e5]
      exact r3
    | some d' =>
      obtain ⟨v', h4, h5⟩ := hg.1 d' e5
      refine ⟨some v', h4 ▸ DGet.kR hp', q v' H3 A3 ((f1.trans f2).trans f3) ok3 ?_⟩
      rw [e5]
      exact h5
  · cases e
end
end My
namespace My
open PySem PySem.Spec PyProof.Rows L2
section
variable {K : PySem.W.Frag} {W : Option WX} {a b c d e f g t2 : TS} {s s2 : MS}
theorem t_seqB2 (h1 : StD K W (tSeq a b) s) (h2 : StD K W t2 s2) : StD K W (tSeq a (tSeq b t2)) (sSeq s s2) :=
  show StD K W (tSeq (tSeq a b) t2) (sSeq s s2) from t_seq h1 h2
end
end My
namespace My
open PySem PySem.Spec PyProof.Rows L2
end My
namespace My
open PySem PySem.Spec PyProof.Rows L2
/-- the different ones, in their order -/
def dsF {α : Type} [DecidableEq α] (l : List α) : List α := l.foldl (fun a x => if x ∈ a then a else a ++ [x]) []
section
variable {prog : Program} {w : World} {A : Around} {R : Result → Shared → Prop} {I : Addr} {fp wr : List Addr} {G : Array GenState → Array GenState → Prop} {n : Nat} {P : Nat → Value → Prop} {St : Nat → Shared → Prop}
/-- the set of the first i texts -/
def TxS (prog : Program) (w : World) (h : Heap) (S : Addr) (xs : List Str) (i : Nat) : Prop := h.SetOf (PySem.strKind prog w) S (fun y => (xs.take i).any fun x => x == y) (dsF (xs.take i)).length
theorem TxS.at {h h' : Heap} {S : Addr} {xs : List Str} {i : Nat} (hs : TxS prog w h S xs i) (k : ∀ o, h.get? S = some o → h'.get? S = some o) : TxS prog w h' S xs i := by
  obtain ⟨ob, es, ep, t, hg, r⟩ := hs
  exact ⟨ob, es, ep, t, k ob hg, r⟩
end
end My
namespace L2
open PySem PySem.Spec PyProof.Rows My
end L2
namespace My
open PySem PySem.Spec PyProof.Rows L2
end My
namespace My
open PySem PySem.Spec PyProof.Rows L2
theorem strs_sorted {ns : List Codes} {ys : List Str} (hy : ys.Perm (ns.map SX.S)) (hs : sortedS ys = true) : ys.map V.str = (sortT ns).map sv := by
  have e1 : ys = (ys.map fun x => x.cps.toList).map SX.S := by
    rw [List.map_map]
    have : ∀ l : List Str, l = l.map (SX.S ∘ fun x : Str => x.cps.toList) := fun l => by
      induction l with
      | nil => rfl
      | cons x l ih => rw [List.map_cons, ← ih]; exact congrArg (· :: l) (SX.S_tl x).symm
    exact this ys
  have h2 : (ys.map fun x : Str => x.cps.toList).Perm ns := by
    have := hy.map (fun x : Str => x.cps.toList)
    rw [List.map_map] at this
    have e2 : ns.map ((fun x : Str => x.cps.toList) ∘ SX.S) = ns := by
      have : ∀ l : List Codes, l.map ((fun x : Str => x.cps.toList) ∘ SX.S) = l := fun l => by
        induction l with
        | nil => rfl
        | cons x l ih => rw [List.map_cons, ih]; rfl
      exact this ns
    rwa [e2] at this
  rw [e1] at hs ⊢
  rw [sortT_uniq h2 hs, List.map_map]
  rfl
def rSortedL (K : PySem.W.Frag) : List V → Hp → VK → Prop := fun xs H Q => rSortedU K xs H Q ∨ rSortedS K xs H Q
theorem call_sortedL {X : Cx} {K : PySem.W.Frag} (hc : X.calm = true) (hK : X.K = K := by rfl) : CallR X (.builtin "sorted") (rSortedL K) := hK ▸ (call_sortedU (X := X) hc).or cr_sortedS
def lSortedL (μ : Store) (ds : List D) : Option (List D) := match ds with
  | [x] => match asS μ x with
    | some (.str a :: r) => (match strsOf (.str a :: r) with
      | some ns => if ns.length < 64 then some ((sortT ns).map D.str) else none
      | none => none)
    | _ => lSortedU μ ds
  | _ => lSortedU μ ds
section
variable {K : PySem.W.Frag} {A : List Addr} {M : Addr → Prop} {H : Hp}
theorem cc_sortedL : CcD K (rSortedL K) lSortedL := fun A M μ H vs ds es ok r e Q f => by
  unfold lSortedL at e
  split at e
  · rename_i x
    split at e
    · rename_i a l hx
      split at e
      · rename_i ns hns
        split at e
        · rename_i hl
          cases e
          obtain ⟨v, r', rfl, h1, rfl⟩ := r
          obtain ⟨p, ws, rfl, hs, rr⟩ := asS_rep ok h1 hx
          have hw := strsOf_rep rr hns
          refine .inr ⟨p, ns.map SX.S, rfl, ?_, by rw [List.length_map]; exact hl, fun ys p2 hy hy2 hp2 => ?_⟩
          · rw [hw] at hs
            rw [List.map_map]
            exact hs
          · rw [strs_sorted hy hy2]
            exact f p2 _ hp2 (repL_strs _)
        · cases e
      · cases e
    · exact .inl (cc_sortedU A M μ H vs _ es ok r e Q f)
  · exact .inl (cc_sortedU A M μ H vs _ es ok r e Q f)
end
end My
namespace My
open PySem PySem.Spec PyProof.Rows L2
section
variable {prog : Program} {w : World} {K : Type} [DecidableEq K] {knd : KeyKind prog w K} {A : Around} {E : Value → Shared → Prop} {s : Shared}
theorem w_dictPut {d : Addr} {kvs : List (K × Value)} {k : K} {key v : Value} {Q : Unit → Shared → Prop} (hkey : knd.is k key = true) (hm : s.heap.DictOf knd d kvs)
    (hQ : ∀ h', h'.DictOf knd d (stored kvs k v) → Heap.SameBut d s.heap h' → Q () { s with heap := h' })
    (hsz : kvs.length ≤ sizeLine := by size_fits) :
    wpAny (model prog w) A (dictPut d (knd.hash k) key v) Q E s := by
  obtain ⟨o, es, ep, ho, hc, hd, hk, hp, hn⟩ := hm
  have hes : es.size ≤ sizeLine := by
    have e1 := hp.length
    have e2 : es.toList.length = es.size := by simp
    omega
  unfold dictPut
  refine wpAny_bind (wpAny_dictFind_of hkey ho hd hk ?_)
  have hidx : (es.findIdx? fun e => knd.is k e.key) = kvs.findIdx? fun kv => decide (kv.1 = k) := by
    rw [← hp.findIdx k]; obtain ⟨l⟩ := es; simp
  cases hi : es.findIdx? fun e => knd.is k e.key with
  | some i =>
    refine wpAny_updateDict ho hd (hQ _ ⟨_, _, ep, Heap.get?_update_self _ ho (Obj.isFreed_of_dict (Obj.data_mapDict hd _)),
      hc.mapDict _, Obj.data_mapDict hd _, hk.modify _ _, ?_, ?_⟩ (Heap.SameBut.update ..))
    · rw [stored, if_pos (any_of_findIdx_some (hidx ▸ hi))]
      have hl : (es.toList.findIdx? fun e => knd.is k e.key) = some i := by rw [← hi]; obtain ⟨l⟩ := es; simp
      have := hp.modify hn hl v
      obtain ⟨l⟩ := es
      simpa using this
    · rw [stored, if_pos (any_of_findIdx_some (hidx ▸ hi)), keys_map_store]; exact hn
  | none =>
    have hnot : k ∉ kvs.map (·.1) := not_mem_of_findIdx_none (hidx ▸ hi)
    have hany : ¬ (kvs.any fun kv => decide (kv.1 = k)) = true := by
      rw [List.any_eq_true]; rintro ⟨kv, hkv, he⟩
      exact hnot (List.mem_map.mpr ⟨kv, hkv, of_decide_eq_true he⟩)
    refine wpAny_updateDictKeys (hz := hes) ho hd (hQ _ ⟨_, _, ep + 1, Heap.get?_update_self _ ho (Obj.isFreed_of_dict (Obj.data_mapDictKeys hd _)),
      hc.mapDictKeys _, Obj.data_mapDictKeys hd _, hk.push hkey _, ?_, ?_⟩ (Heap.SameBut.update ..))
    · rw [stored, if_neg hany]
      have := hp.append hkey (knd.hash k) v
      obtain ⟨l⟩ := es
      simpa using this
    · rw [stored, if_neg hany, List.map_append, List.nodup_append]
      refine ⟨hn, by simp, ?_⟩
      intro a ha b hb
      simp only [List.map_cons, List.map_nil, List.mem_singleton] at hb
      subst hb
      exact fun e => hnot (e ▸ ha)
theorem w_mergeMapping {d o : Addr} {kvs more : List (K × Value)} {Q : Unit → Shared → Prop} (hdo : d ≠ o) (hoS : (o == sysModules) = false)
    (hd : s.heap.DictOf knd d kvs) (ho : s.heap.DictOf knd o more)
    (hQ : ∀ h', h'.DictOf knd d (merged kvs more) → Heap.SameBut d s.heap h' → Q () { s with heap := h' })
    (hsz : kvs.length + more.length ≤ sizeLine) :
    wpAny (model prog w) A (mergeMapping d (.ref o) false) Q E s := by
  obtain ⟨od, esd, epd, hod, hcd, hdd, hkd, hpd, hnd⟩ := id hd
  obtain ⟨oo, eso, epo, hoo, hco, hdo', hko, hpo, hno⟩ := id ho
  have hlen : more.length = eso.size := by rw [← hpo.length]; simp
  unfold mergeMapping
  refine wpAny_bind (wpAny_isInstance ho.typeIs isSubtype_dict_dict ?_)
  rw [if_pos rfl]
  refine wpAny_bind (wpAny_specialOf ho.typeIs F.slot_dict_iter.lookup (wpAny_bind (wpAny_pure ?_)))
  simp only [beq_self_eq_true]
  rw [if_neg (by rw [hoS]; exact Bool.false_ne_true)]
  have loop : wpAny (model prog w) A (do
      let l ← dictEntries o
      let epoch ← dictEpoch o
      forIn (List.range l.size) PUnit.unit fun i (_ : PUnit) => (do
          let l' ← dictEntries o
          match l'[i]? with
            | some e => do
              holding [e.key, e.val] (dictPut d e.hash e.key e.val)
              let ep' ← dictEpoch o
              if (ep' != epoch) = true then do
                  (unsupported "dict.changed-during-merge" : Sem PUnit)
                  pure (ForInStep.yield PUnit.unit)
                else pure (ForInStep.yield PUnit.unit)
            | _ => do
              (unsupported "dict.changed-during-merge" : Sem PUnit)
              pure (ForInStep.yield PUnit.unit) : Sem (ForInStep PUnit))
      pure ()) Q E s := by
    refine wpAny_bind (wpAny_dictEntries hoo hdo' ?_)
    refine wpAny_bind (wpAny_dictEpoch hoo hdo' ?_)
    refine wpAny_bind ?_
    rw [List.range_eq_range']
    refine wpAny_forIn_list _
      (fun rest _ s' => ∃ h' i, s' = { s with heap := h' } ∧ rest = List.range' i (eso.size - i) ∧ i ≤ eso.size ∧ h'.DictOf knd d (merged kvs (more.take i)) ∧ h'.get? o = some oo ∧ Heap.SameBut d s.heap h')
      _ ?_ ?_ _ _ ⟨s.heap, 0, rfl, by simp, Nat.zero_le _, by simpa [merged] using hd, hoo, Heap.SameBut.refl _ _⟩
    · rintro x rest b s' ⟨h', i, rfl, hr, hi, hd', hoo', hs'⟩
      have hlt : i < eso.size := by
        rcases Nat.lt_or_ge i eso.size with h | h
        · exact h
        · rw [Nat.sub_eq_zero_of_le h] at hr; simp at hr
      obtain ⟨rfl, hrest⟩ : x = i ∧ rest = List.range' (i + 1) (eso.size - (i + 1)) := by
        have e : eso.size - i = (eso.size - (i + 1)) + 1 := by omega
        rw [e, List.range'_succ] at hr
        injection hr with h1 h2
        exact ⟨h1, h2⟩
      refine wpAny_bind (wpAny_dictEntries hoo' hdo' ?_)
      rw [Array.getElem?_eq_getElem hlt]
      obtain ⟨kv, hkv⟩ : ∃ kv, more[x]? = some kv := ⟨more[x]'(by rw [hlen]; exact hlt), List.getElem?_eq_getElem _⟩
      obtain ⟨k, v⟩ := kv
      obtain ⟨hkey, hval⟩ := hpo.get? (e := eso[x]) (by simp [hlt]) hkv
      obtain ⟨k', hkey', hhash⟩ := hko eso[x] (Array.getElem_mem hlt)
      obtain rfl : k' = k := knd.inj _ _ _ hkey' hkey
      show wpAny _ _ (holding [eso[x].key, eso[x].val] (dictPut d eso[x].hash eso[x].key eso[x].val) >>= _) _ _ _
      rw [hhash, hval]
      have hmx : (merged kvs (more.take x)).length ≤ sizeLine := by
        have e1 := merged_length_le kvs (more.take x)
        have e2 : (more.take x).length ≤ more.length := by rw [List.length_take]; omega
        omega
      refine wpAny_bind (wpAny_holding (w_dictPut (hsz := hmx) hkey hd' fun h'' hd'' hs'' => ?_))
      have hoo'' : h''.get? o = some oo := (hs''.2 o (Ne.symm hdo)).trans hoo'
      refine wpAny_bind (wpAny_dictEpoch hoo'' hdo' ?_)
      rw [if_neg (by simp)]
      exact wpAny_pure ⟨h'', x + 1, rfl, hrest, hlt, by rw [merged_take_succ kvs more x (k', v) hkv]; exact hd'', hoo'', hs'.trans hs''⟩
    · rintro b s' ⟨h', i, rfl, hr, hi, hd', hoo', hs'⟩
      have hin : i = eso.size := by
        rcases Nat.lt_or_ge i eso.size with h | h
        · have e : eso.size - i = (eso.size - (i + 1)) + 1 := by omega
          rw [e, List.range'_succ] at hr; exact nomatch hr
        · exact Nat.le_antisymm hi h
      refine wpAny_pure (hQ h' ?_ hs')
      rw [hin, ← hlen, List.take_length] at hd'; exact hd'
  refine wpAny_bind (wpAny_dictEntries hod hdd ?_)
  split
  · refine wpAny_bind (wpAny_dictEntries hoo hdo' ?_)
    have hl2 : (forIn eso PUnit.unit fun e (_ : PUnit) => (match e.key with
        | Value.ref a => (do
          let q ← specialOf e.key (Str.ofString "__eq__")
          if (q != some (Value.builtin "object.__eq__")) = true then
              if (Array.filter (fun x => x.hash == e.hash) eso).size > 1 then do
                (unsupported "dict.merge-into-an-empty-dict:keys-of-equal-hash" : Sem PUnit)
                pure (ForInStep.yield PUnit.unit)
              else pure (ForInStep.yield PUnit.unit)
            else pure (ForInStep.yield PUnit.unit))
        | x => pure (ForInStep.yield PUnit.unit) : Sem (ForInStep PUnit))) = pure PUnit.unit := by
      rw [← Array.forIn_toList]
      refine forIn_yield_id _ fun e he c => ?_
      obtain ⟨k, hkey, _⟩ := hko e (Array.mem_toList_iff.mp he)
      have := knd.byValue k _ hkey
      cases hk2 : e.key with
      | ref a => rw [hk2] at this; exact absurd this Bool.false_ne_true
      | _ => rfl
    exact wpAny_bind (wpAny_of_eq hl2 loop)
  · exact loop
end
/-- {**a, **b} of two dicts -/
def tDst2 (ta tb : TE) : TE := fun σ H Q => ∀ p, H p = none → ta σ (upd H p (.dK [])) fun x H1 => H1 p = some (.dK []) ∧ ∃ (a : Addr) (kv1 : List (Key × V)), x = .ref a ∧ a ≠ p ∧ Rd H1 a (.dK kv1) ∧ kv1.length ≤ 1000 ∧
  tb σ (upd H1 p (.dK (mergeK [] kv1))) fun y H2 => H2 p = some (.dK (mergeK [] kv1)) ∧ ∃ (b : Addr) (kv2 : List (Key × V)), y = .ref b ∧ b ≠ p ∧ Rd H2 b (.dK kv2) ∧ kv2.length ≤ 1000 ∧ Q (.ref p) (upd H2 p (.dK (mergeK (mergeK [] kv1) kv2)))
theorem d_merge {X : Cx} {pins : List (Addr × Obj)} {σ : L2.St} {H : Hp} {s : Shared} {A : Around} {E : Value → Shared → Prop} {p a : Addr} {kv more : List (Key × V)} {Q : Unit → Shared → Prop} (I : Inv X pins σ H s) (hp : H p = some (.dK kv)) (ha : Rd H a (.dK more)) (ne : a ≠ p) (hz : kv.length + more.length ≤ 2500)
    (h : ∀ s', Inv X pins σ (upd H p (.dK (mergeK kv more))) s' → Q () s') : wpAny (model X.prog X.w) A (mergeMapping p (.ref a) false) Q E s := by
  obtain ⟨z, hd, vs, rel, dd⟩ := dk_of I.hok hp
  obtain ⟨z2, hd2, vs2, rel2, dd2⟩ := dk_rd I.hok ha
  have hzv : vs.length + vs2.length ≤ sizeLine := by
    rw [← rel.length, ← rel2.length, sizeLine_eq]
    omega
  have hl : (mergeK kv more).length ≤ sizeLine := by
    have := length_mergeK more kv
    rw [sizeLine_eq]
    omega
  refine w_mergeMapping (Ne.symm ne) hd2 dd dd2 (fun h' dd' hs => h _ ?_) hzv
  have he : ∃ q, h'.get? p = some q := let ⟨q, _, _, hq, _⟩ := dd'; ⟨q, hq⟩
  exact d_write I (by rw [hp]; exact True.intro) hs he (dk_new hl hd (rel2.merge rel) dd')
theorem pe_dst2 {X : Cx} {pos : Pos} {ea eb : Expr} {ta tb : TE} (h1 : PE X ea ta) (h2 : PE X eb tb) : PE X (.Dict [none, none] [ea, eb] pos) (tDst2 ta tb) := ⟨fun pins s σ H Q I q => by
  have hn := I.hok.fresh (Nat.le_refl s.heap.objs.size)
  have I1 := I.laid (a := s.heap.objs.size) (o := .dK []) (h' := s.heap.push { cls := .type "dict", data := .dict #[] }) (t' := s.toks) (fun _ _ q => Heap.get?_push_of_some _ q) (Nat.le_refl _) (dk_empty s.heap I.big)
  show wpAny _ _ (do standAt pos; dictDisplay [(none, do let x ← eval ea X.env; standAt pos; pure x), (none, do let x ← eval eb X.env; standAt pos; pure x)]) _ _ s
  refine wpAny_bind (wpAny_standAt ?_)
  unfold dictDisplay
  simp only [List.forIn_cons, List.forIn_nil]
  refine wpAny_bind (wpAny_bind (wpAny_bind ?_))
  rw [if_pos List.isEmpty_nil]
  refine wpAny_pure ?_
  dsimp only
  refine wpAny_bind (wpAny_alloc (wpAny_bind (wpAny_holding (wpAny_bind (thn (h1.run pins _ σ _ _ I1 (q _ hn)) fun u s2 ⟨x, H1, I2, rx, hp1, a, kv1, ex, na, ra, hz1, q1⟩ => wpAny_bind (wpAny_standAt (wpAny_pure ?_)))))))
  subst ex
  obtain rfl : u = Value.ref a := rx
  refine wpAny_bind (wpAny_onRaise (wpAny_tryCatch (wpAny_onRaise (wpAny_holding (d_merge I2 hp1 ra na (by rw [List.length_nil]; omega) fun s3 I3 => wpAny_pure ?_)))))
  dsimp only
  refine wpAny_bind (wpAny_bind ?_)
  rw [if_pos List.isEmpty_nil]
  refine wpAny_pure ?_
  dsimp only
  have hm1 : (mergeK [] kv1).length ≤ kv1.length := by
    have := length_mergeK kv1 []
    rw [List.length_nil] at this
    omega
  refine wpAny_bind (wpAny_pure (wpAny_bind (wpAny_holding (wpAny_bind (thn (h2.run pins _ σ _ _ I3 q1) fun u s4 ⟨y, H2, I4, ry, hp2, b, kv2, ey, nb, rb, hz2, q2⟩ => wpAny_bind (wpAny_standAt (wpAny_pure ?_)))))))
  subst ey
  obtain rfl : u = Value.ref b := ry
  refine wpAny_bind (wpAny_onRaise (wpAny_tryCatch (wpAny_onRaise (wpAny_holding (d_merge I4 hp2 rb nb (by omega) fun s5 I5 => wpAny_pure ?_)))))
  dsimp only
  refine wpAny_pure (wpAny_bind ?_)
  rw [if_pos List.isEmpty_nil]
  exact wpAny_pure (wpAny_pure ⟨.ref s.heap.objs.size, _, I5, rfl, q2⟩)⟩
section
variable {K : PySem.W.Frag} {A : List Addr} {M : Addr → Prop} {H : Hp}
/-- keys and values put into a dict, one after the other -/
def mrgKD : List D → List D → List D → List D → Option (List D × List D)
  | ks, xs, [], [] => some (ks, xs)
  | ks, xs, j :: js, y :: ys => (match putKD ks xs j y with
    | some r => mrgKD r.1 r.2 js ys
    | none => none)
  | _, _, _, _ => none
theorem rep_key {d : D} {k : Key} (h : keyD d = some k) : RepD K A M H (kV k) d := by
  cases d with
  | int i => cases h; rfl
  | str l => cases h; rfl
  | _ => cases h
theorem mrg_rep : ∀ {js ys ks xs : List D} {r : List D × List D} {q qj : List Key} {vs ws : List V}, mrgKD ks xs js ys = some r → keysD ks = some q → ks.length = vs.length → RepL K A M H vs xs → keysD js = some qj → RepL K A M H ws ys →
    ∃ q' vs', mergeK (q.zip vs) (qj.zip ws) = q'.zip vs' ∧ keysD r.1 = some q' ∧ r.1.length = vs'.length ∧ RepL K A M H vs' r.2
  | [], [], ks, xs, r, q, qj, vs, ws, h, hq, hl, rx, hj, rw_ => by
    cases h
    cases hj
    exact ⟨q, vs, rfl, hq, hl, rx⟩
  | [], _ :: _, ks, xs, r, q, qj, vs, ws, h, hq, hl, rx, hj, rw_ => by cases h
  | _ :: _, [], ks, xs, r, q, qj, vs, ws, h, hq, hl, rx, hj, rw_ => by cases h
  | j :: js, y :: ys, ks, xs, r, q, qj, vs, ws, h, hq, hl, rx, hj, rw_ => by
    unfold mrgKD at h
    split at h
    · rename_i r1 hp
      unfold keysD at hj
      split at hj
      · rename_i k qs hk hqs
        cases hj
        obtain ⟨w, ws, rfl, r0, rr⟩ := rw_
        obtain ⟨k2, q2, vs2, ek, pz, hq2, hl2, rv2, _⟩ := putKD_rep hp hq hl rx (rep_key (K := K) (A := A) (M := M) (H := H) hk) r0
        obtain rfl : k = k2 := by
          revert ek
          cases k <;> cases k2 <;> intro z <;> first | (cases z; rfl) | cases z
        obtain ⟨q', vs', em, a2, a3, a4⟩ := mrg_rep h hq2 hl2 rv2 hqs rr
        refine ⟨q', vs', ?_, a2, a3, a4⟩
        show mergeK (putK (q.zip vs) k w) (qs.zip ws) = _
        rw [← em, ← pz]
      · cases hj
    · cases h
/-- a row of pairs taken apart -/
def unprD : List D → Option (List D × List D)
  | [] => some ([], [])
  | .tup [k, y] :: r => (match unprD r with
    | some q => some (k :: q.1, y :: q.2)
    | none => none)
  | _ => none
theorem unpr_rep : ∀ {ds : List D} {ks ys : List D} {q : List Key} {us : List V}, unprD ds = some (ks, ys) → keysD ks = some q → RepL K A M H us ds →
    ∃ (ps : List Addr) (ws : List V), us = ps.map V.ref ∧ Paired (fun p kv => SqT K H p [kV kv.1, kv.2]) ps (q.zip ws) ∧ RepL K A M H ws ys
  | [], ks, ys, q, us, h, hq, ru => by
    cases h
    cases hq
    cases (show us = [] from ru)
    exact ⟨[], [], rfl, .nil, rfl⟩
  | d :: ds, ks, ys, q, us, h, hq, ru => by
    unfold unprD at h
    split at h
    · rename_i heq
      cases heq
    · rename_i k y r heq
      cases heq
      split at h
      · rename_i q2 h2
        cases h
        unfold keysD at hq
        split at hq
        · rename_i kk qs hk hqs
          cases hq
          obtain ⟨u, us, rfl, ⟨p, vs, rfl, hs, a, va, rfl, ra, b, vb, rfl, rb, rfl⟩, rr⟩ := ru
          obtain ⟨ps, ws, rfl, pr, rw_⟩ := unpr_rep (show unprD ds = some (q2.1, q2.2) from h2) hqs rr
          cases keyD_rep hk ra
          exact ⟨p :: ps, b :: ws, rfl, .cons hs.sq pr, ⟨b, ws, rfl, rb, rw_⟩⟩
        · cases hq
      · cases h
    · cases h
theorem mrg_keys : ∀ {js ys ks xs : List D} {r : List D × List D}, mrgKD ks xs js ys = some r → ∃ q, keysD js = some q
  | [], _, _, _, _, _ => ⟨[], rfl⟩
  | j :: js, [], ks, xs, r, h => by cases h
  | j :: js, y :: ys, ks, xs, r, h => by
    unfold mrgKD at h
    split at h
    · rename_i r1 hp
      unfold putKD at hp
      split at hp
      · rename_i q k hq hk
        obtain ⟨qs, hqs⟩ := mrg_keys h
        exact ⟨k :: qs, by unfold keysD; rw [hk, hqs]⟩
      · cases hp
    · cases h
/-- dict(pairs) -/
def rDictPk (K : PySem.W.Frag) : List V → Hp → VK → Prop := fun xs H Q => ∃ (a : Addr) (ps : List Addr) (kvs : List (Key × V)), xs = [.ref a] ∧ SqL K H a (ps.map V.ref) ∧ Paired (fun p kv => SqT K H p [kV kv.1, kv.2]) ps kvs ∧ ∀ p, H p = none → Q (.ref p) (upd H p (.dK (mergeK [] kvs)))
theorem call_dictPK {X : Cx} {K : PySem.W.Frag} (hc : X.calm = true) (hK : X.K = K := by rfl) : CallR X (.type "dict") (rDictPk K) := hK ▸ call_dictP hc
def mDictP (m : Mo D) : Mo (List D × List D) := fun env μ => (m env μ).bind fun d μ1 => match d with
  | .lst ds => (match unprD ds with
    | some q => (match mrgKD [] [] q.1 q.2 with
      | some r => .ok r μ1
      | none => .no)
    | none => .no)
  | _ => .no
theorem fut_none {A' : List Addr} {H' : Hp} {p : Addr} {μ : Store} (ok : Ok K A M μ H) (f : Fut A H A' H') {M' : Addr → Prop} {μ' : Store} (ok' : Ok K A' M' μ' H') (hp : H' p = none) : H p = none := by
  cases e : H p with
  | none => rfl
  | some o =>
    by_cases z : p ∈ A
    · obtain ⟨B, rfl⟩ := f.pre
      exact absurd (.inl (List.mem_append_left _ z)) (ok'.fresh hp)
    · rw [f.pr p o z e] at hp
      cases hp
theorem k_dictP {te : TE} {mp : Mo D} (h : EvD K te mp) : EvK K (tCB (rDictPk K) (tCons te tNil)) (mDictP mp) := fun A M μ H σ env r μ' ok en e Q f => by
  obtain ⟨d, μ1, e1, e2⟩ := Rs.bind_ok e
  split at e2
  · rename_i ds
    split at e2
    · rename_i q hu
      split at e2
      · rename_i r2 hm
        cases e2
        refine h A M μ H σ env _ _ ok en e1 _ fun x H1 A1 f1 ok1 r1 => ?_
        obtain ⟨a, us, rfl, hl, ru⟩ := r1
        obtain ⟨qk, hqk⟩ := mrg_keys hm
        obtain ⟨ps, ws, rfl, pr, rw_⟩ := unpr_rep (show unprD ds = some (q.1, q.2) from hu) hqk ru
        obtain ⟨q', vs', em, hq', hl', rr⟩ := mrg_rep (q := []) (vs := []) hm rfl rfl rfl hqk rw_
        refine ⟨a, ps, qk.zip ws, rfl, SqL.of hl.1, pr, fun p hp => ?_⟩
        obtain ⟨ok2, g2⟩ := ok1.openM (o := .dK (q'.zip vs')) hp fun q z => by unfold LamX.CodeO at z; cases z
        have em : mergeK [] (qk.zip ws) = q'.zip vs' := em
        rw [em]
        refine f p vs' _ A1 (f1.trans (Fut.newO hp)) ok2 ?_ (fut_none ok f1 ok1 hp) hl' (by unfold keysOk; rw [hq']; rfl) (RepL.go g2 rr)
        rw [upd_same]
        unfold dicO
        rw [hq']
        rfl
      · cases e2
    · cases e2
  · cases e2
def mDst2 (ma mb : Mo D) : Mo (List D × List D) := fun env μ => (ma env μ).bind fun x μ1 => (mb env μ1).bind fun y μ2 => match x, y with
  | .dic false ks xs, .dic false js ys => if ks.length ≤ 1000 ∧ js.length ≤ 1000 then (match mrgKD [] [] ks xs with
    | some r1 => (match mrgKD r1.1 r1.2 js ys with
      | some r => .ok r μ2
      | none => .no)
    | none => .no) else .no
  | _, _ => .no
theorem k_dst2 {ta tb : TE} {ma mb : Mo D} (ha : EvD K ta ma) (hb : EvD K tb mb) : EvK K (tDst2 ta tb) (mDst2 ma mb) := fun A M μ H σ env r μ' ok en e Q f => by
  obtain ⟨x, μ1, e1, e⟩ := Rs.bind_ok e
  obtain ⟨y, μ2, e2, e⟩ := Rs.bind_ok e
  split at e
  · rename_i ks xs js ys
    split at e
    · rename_i hz
      split at e
      · rename_i r1 hm1
        split at e
        · rename_i r2 hm2
          cases e
          intro p hp
          obtain ⟨ok1, g1⟩ := ok.openM (o := .dK []) hp fun q z => by unfold LamX.CodeO at z; cases z
          have hpA := ok.fresh hp
          refine ha A (MP M p) μ _ σ env _ _ ok1 (en.go g1) e1 _ fun u H1 A1 f1 ok2 ra => ?_
          obtain ⟨a, vs, rfl, ⟨⟨rd, _⟩, na⟩, ⟨hl, hk⟩, rv⟩ := ra
          have hM : MP M p p := .inr rfl
          have h1p : H1 p = some (.dK []) := f1.pr p _ (fun z => hpA (.inl z)) upd_same
          obtain ⟨qa, hqa⟩ := mrg_keys hm1
          have rd : Rd H1 a (.dK (qa.zip vs)) := by
            unfold dicO at rd
            rw [hqa] at rd
            exact rd
          obtain ⟨q1, vs1, em1, hq1, hl1, rr1⟩ := mrg_rep (q := []) (vs := []) hm1 rfl rfl rfl hqa rv
          have em1 : mergeK [] (qa.zip vs) = q1.zip vs1 := em1
          refine ⟨h1p, a, qa.zip vs, rfl, fun z => na (.inr (.inr z)), rd, ?_, ?_⟩
          · rw [List.length_zip, keysD_len hqa]
            omega
          rw [em1]
          have ok3 := ok2.updM (o := .dK (q1.zip vs1)) hM fun q z => by unfold LamX.CodeO at z; cases z
          have g3 : Go A1 (MP M p) H1 A1 (MP M p) (upd H1 p (.dK (q1.zip vs1))) := go_updM hM
          have pA1 : p ∉ A1 := fun z => ok2.dis p z hM
          refine hb A1 (MP M p) μ1 _ σ env _ _ ok3 (((en.go g1).go f1.go).go g3) e2 _ fun u2 H2 A2 f2 ok4 rb => ?_
          obtain ⟨b, ws, rfl, ⟨⟨rdb, _⟩, nb⟩, ⟨hlb, hkb⟩, rvb⟩ := rb
          have h2p : H2 p = some (.dK (q1.zip vs1)) := f2.pr p _ pA1 upd_same
          obtain ⟨qb, hqb⟩ := mrg_keys hm2
          have rdb : Rd H2 b (.dK (qb.zip ws)) := by
            unfold dicO at rdb
            rw [hqb] at rdb
            exact rdb
          obtain ⟨q2, vs2, em2, hq2, hl2, rr2⟩ := mrg_rep hm2 hq1 hl1 ((rr1.go g3).go f2.go) hqb rvb
          refine ⟨h2p, b, qb.zip ws, rfl, fun z => nb (.inr (.inr z)), rdb, ?_, ?_⟩
          · rw [List.length_zip, keysD_len hqb]
            omega
          rw [em2]
          have ok5 := ok4.updM (o := .dK (q2.zip vs2)) hM fun q z => by unfold LamX.CodeO at z; cases z
          have fu : Fut A H A2 (upd H2 p (.dK (q2.zip vs2))) := by
            refine ⟨?_, fun a ha => ?_, fun a o ha e => ?_⟩
            · obtain ⟨B, rfl⟩ := f1.pre
              obtain ⟨C, rfl⟩ := f2.pre
              exact ⟨B ++ C, by simp⟩
            · rcases f2.new a ha with z | z
              · rcases f1.new a z with z | z
                · exact .inl z
                · by_cases y : a = p
                  · rw [y]; exact .inr hp
                  · rw [upd_ne y] at z; exact .inr z
              · have ne : a ≠ p := fun y => by rw [y, upd_same] at z; cases z
                rw [upd_ne ne] at z
                by_cases y : a ∈ A
                · exact .inl y
                · cases e : H a with
                  | none => exact .inr rfl
                  | some o =>
                    rw [f1.pr a o y (by rw [upd_ne ne]; exact e)] at z
                    cases z
            · have ne : a ≠ p := fun z => by rw [z, hp] at e; cases e
              have e1 : H1 a = some o := f1.pr a o ha (by rw [upd_ne ne]; exact e)
              have nA1 : a ∉ A1 := fun z => by
                rcases f1.new a z with y | y
                · exact ha y
                · rw [upd_ne ne, e] at y; cases y
              rw [upd_ne ne]
              exact f2.pr a o nA1 (by rw [upd_ne ne]; exact e1)
          refine f p vs2 _ A2 fu ok5 ?_ hp hl2 (by unfold keysOk; rw [hq2]; rfl) (RepL.go (go_updM hM) rr2)
          rw [upd_same]
          unfold dicO
          rw [hq2]
          rfl
        · cases e
      · cases e
    · cases e
  · cases e
end
end My
namespace My
open PySem PySem.Spec PyProof.Rows L2
inductive HitsD (K : PySem.W.Frag) (H : Hp) (ls : List (Key × V)) : List (Key × V) → Bool → Prop
  | nil : HitsD K H ls [] true
  | miss {k : Key} {v : V} {r : List (Key × V)} : valV ls k = none → HitsD K H ls ((k, v) :: r) false
  | hit {k : Key} {v u : V} {d e : PyData} {r : List (Key × V)} {b : Bool} : valV ls k = some u → Dp K H v d → Dp K H u e → SeqAt.shaped d = true → SeqAt.shaped e = true → HitsD K H ls r b → HitsD K H ls ((k, v) :: r) (PyData.eqv d e && b)
section
variable {X : Cx} {pins : List (Addr × Obj)} {σ : L2.St} {H : Hp} {s : Shared}
theorem hitsD_run (I : Inv X pins σ H s) {A : Around} (hu : A.in1.units + 64 < cLine) {ls : List (Key × V)} {vb : List (Key × Value)} (rb : KV ls vb) {ks : List (Key × V)} {b : Bool} (h : HitsD X.K H ls ks b) : ∀ {va : List (Key × Value)}, KV ks va → PySem.W.KeqHits A.in1 s vb va b := by
  induction h with
  | nil => intro va r; cases r; exact .nil
  | @miss k v r hv =>
    intro va ra
    cases ra with
    | @cons p q ps qs h t =>
      obtain ⟨k2, v2⟩ := q
      cases h.1
      have := rb.val k
      rw [hv] at this
      refine .miss ?_
      cases e : valueAt vb k with
      | none => rfl
      | some y => rw [e] at this; exact this.elim
  | @hit k v u d e r b hv hd he sd se hr ih =>
    intro va ra
    cases ra with
    | @cons p q ps qs h t =>
      obtain ⟨k2, v2⟩ := q
      cases h.1
      have := rb.val k
      rw [hv] at this
      cases e2 : valueAt vb k with
      | none => rw [e2] at this; exact this.elim
      | some y =>
        rw [e2] at this
        obtain ⟨as, r1⟩ := Dp.reads I d v v2 hd h.2
        obtain ⟨bs, r2⟩ := Dp.reads I e u y he this
        exact .hit e2 (PySem.W.keq_at r1 r2 sd se hu) (ih t)
def rEqDD (K : PySem.W.Frag) : R2 := fun x y H Q => ∃ (a b : Addr) (ks ls : List (Key × V)) (r : Bool), x = .ref a ∧ y = .ref b ∧ Rd H a (.dK ks) ∧ Rd H b (.dK ls) ∧ HitsD K H ls ks r ∧ Q (.bl (ks.length == ls.length && r)) H
theorem op_eqDD (hu : X.A.units + 65 < cLine) : OpR X (compareOp .Eq) (rEqDD X.K) := by
  intro pins s σ H x y v u Q I rx ry h
  obtain ⟨a, b, ks, ls, r, rfl, rfl, ea, eb, hh, q⟩ := h
  obtain rfl : v = Value.ref a := rx
  obtain rfl : u = Value.ref b := ry
  obtain ⟨_, ya, va, ra, da⟩ := dk_rd I.hok ea
  obtain ⟨_, yb, vb, rb, db⟩ := dk_rd I.hok eb
  refine PySem.W.keq_eq (knd := mixKind X.prog X.w) (r := r) ya yb da db (by omega) (fun _ => hitsD_run I (by show X.A.units + 1 + 64 < cLine; omega) rb hh ra) ⟨.bl _, H, I, ?_, q⟩
  rw [ra.length, rb.length]
  rfl
theorem cm_EqK {K : PySem.W.Frag} (hu : X.A.units + 65 < cLine) (hK : X.K = K := by rfl) : OpR X (compareOp .Eq) (rEqDD K) := hK ▸ op_eqDD hu
end
section
variable {K : PySem.W.Frag} {A : List Addr} {M : Addr → Prop} {μ : Store} {H : Hp}
def hitsK (ls : List Key) (ys : List D) : List Key → List D → Option Bool
  | [], [] => some true
  | k :: ks, x :: xs => (match getK ls ys k with
    | none => some false
    | some y => (match toData x, toData y with
      | some d, some e => if SeqAt.shaped d = true ∧ SeqAt.shaped e = true then (hitsK ls ys ks xs).map (PyData.eqv d e && ·) else none
      | _, _ => none))
  | _, _ => none
theorem hitsK_rep {ls : List Key} {ys : List D} {us : List V} (hl : ls.length = us.length) (ru : RepL K A M H us ys) : ∀ {ks : List Key} {xs : List D} {vs : List V} {b : Bool}, hitsK ls ys ks xs = some b → RepL K A M H vs xs → HitsD K H (ls.zip us) (ks.zip vs) b
  | [], [], vs, b, h, rv => by
    cases h
    exact .nil
  | [], _ :: _, vs, b, h, rv => by cases h
  | _ :: _, [], vs, b, h, rv => by cases h
  | k :: ks, x :: xs, vs, b, h, rv => by
    obtain ⟨v, vs, rfl, r0, rr⟩ := rv
    have g := valV_get hl ru k
    unfold hitsK at h
    split at h
    · rename_i hg
      cases h
      exact .miss (g.2 hg)
    · rename_i y hg
      obtain ⟨u, hu, ry⟩ := g.1 y hg
      split at h
      · rename_i d e hd he
        split at h
        · rename_i hs
          obtain ⟨b2, h2, rfl⟩ := Option.map_eq_some_iff.mp h
          exact .hit hu (toData_dp r0 hd) (toData_dp ry he) hs.1 hs.2 (hitsK_rep hl ru h2 rr)
        · cases h
      · cases h
def dEqK (μ : Store) (x y : D) : Option D := match dkv μ x, dkv μ y with
  | some r, some s => (hitsK s.1 s.2 r.1 r.2).map fun b => .bl (r.1.length == s.1.length && b)
  | _, _ => none
theorem od_eqK : OpD K (rEqDD K) dEqK := fun A M μ H x y dx dy d ok rx ry e Q f => by
  unfold dEqK at e
  split at e
  · rename_i r s hr hs
    obtain ⟨b, hb, rfl⟩ := Option.map_eq_some_iff.mp e
    obtain ⟨p, vs, rfl, hp, hl, rr⟩ := dkv_rep ok rx hr
    obtain ⟨q, us, rfl, hq, hl2, ru⟩ := dkv_rep ok ry hs
    refine ⟨p, q, _, _, b, rfl, rfl, hp, hq, hitsK_rep hl2 ru hb rr, f _ H (Evl.Ex.refl _) ?_⟩
    rw [List.length_zip, List.length_zip, ← hl, ← hl2, Nat.min_self, Nat.min_self]
    rfl
  · cases e
end
end My
namespace My
open PySem PySem.Spec PyProof.Rows L2
open PySem.Calls
section
variable {X : Cx} {CX : CXT} {k n : Nat} {a : Addr} {m : Str} {ps ks : List Str} {sp : Sp} {E : L2.St → XK} {pos apos : Pos} {o : Expr} {es : List Expr} {kws : List Keyword} {ta : TE} {t tk : TA} {pins : List (Addr × Obj)} {σ : L2.St} {H : Hp} {s : Shared}
theorem KV_zip : ∀ {ks : List Str} {zs : List V} {ws : List Value}, Vals zs ws → KV (ks.zip zs) (ks.zip ws)
  | [], _, _, _ => by
    rw [List.zip_nil_left, List.zip_nil_left]
    exact .nil
  | k :: ks, [], ws, r => by
    cases r
    exact .nil
  | k :: ks, z :: zs, ws, r => by
    cases r with
    | cons h t => exact .cons ⟨rfl, h⟩ (KV_zip t)
theorem run_Kw {Q : VK} {us : List Value} {vs : List V} {kvs : List (Str × V)} {ws : List (Str × Value)} (F : FnRK X.prog X.w X.K X.mg X.base CX k a n ps sp) (hr : Room k X.A) (hx : PassesAt CX X σ (E σ))
    (I : Inv X pins σ H s) (r : Vals vs us) (rk : KV kvs ws) (hl : vs.length = n) (hn : (kvs.map (·.1)).Nodup) (hbad : ∀ p ∈ kvs, p.1 ∉ ps) (hz : kvs.length ≤ sizeLine)
    (h : ∀ d, H d = none → sp (vs ++ [.ref d]) (upd H d (.dK (kvs.map fun p => (Sum.inr p.1, p.2)))) Q (E σ)) : wpAny (model X.prog X.w) X.A (call (.ref a) us ws) (EP X pins σ Q) X.xe s := by
  refine wpAny_call (codeAny_mono (F X.A X.stack s H us vs kvs ws Q (E σ) hr I.env0 r rk hl hn hbad hz h) fun res s' hq => ?_)
  cases res with
  | error er => exact hx pins H s er s' I hq
  | ok fl =>
    cases fl with
    | ret u => exact I.after hq
    | next => exact hq.elim
    | brk => exact hq.elim
    | cont => exact hq.elim
def tMethKw (K : PySem.W.Frag) (m : Str) (a : Addr) (n : Nat) (ks ps : List Str) (sp : Sp) (E : L2.St → XK) (ta : TE) (t tk : TA) : TE := fun σ H Q => ta σ H fun y H0 => ∃ b C dx fs, y = .ref b ∧ H0 b = some (.ins C dx fs) ∧ Cls K C ∧ Meth K C m a ∧ fs.lookup m = none ∧
  t σ H0 fun vs H1 => tk σ H1 fun zs H2 => vs.length + 1 = n ∧ zs.length = ks.length ∧ ks.length ≤ 1000 ∧ ks.Nodup ∧ (∀ p ∈ ks, p ∉ ps) ∧ ∀ d, H2 d = none → sp ((y :: vs) ++ [.ref d]) (upd H2 d (.dK ((ks.zip zs).map fun p => ((Sum.inr p.1 : Key), p.2)))) Q (E σ)
theorem pe_methKw {K : PySem.W.Frag} {pl : Sem Bool} {kc : List Codes} (he : PE X o ta) (F : FnRK X.prog X.w X.K X.mg X.base CX k a n ps sp) (hr : Room k X.A) (hx : ∀ σ, PassesAt CX X σ (E σ)) (ha : PA X es t) (hkw : PK X kws tk) (hkc : ks = kc.map SX.S)
    (hn : es = [] → t = tNil := by intro z; first | rfl | cases z) (hse : StarOk X es := by first | exact trivial | rfl) (hall : (backToKw pos (keywordEach kws X.env)).all (·.1.isSome) = true := by rfl)
    (hks : (backToKw pos (keywordEach kws X.env)).filterMap (·.1) = ks := by rfl)
    (hpl : ((backTo pos (starEach es X.env)).any (·.1) || (backToKw pos (keywordEach kws X.env)).any (·.1.isNone)) = false := by rfl)
    (ht : eval (.Call (.Attribute o m apos) es kws pos) X.env = (do
      let ov ← eval o X.env
      standAt apos.atName
      let (f, first) ← holding [ov] (getMethod ov m pl)
      callWith pos f first (backTo pos (starEach es X.env)) (backToKw pos (keywordEach kws X.env))) := by rfl) (hK : X.K = K := by rfl) :
    PE X (.Call (.Attribute o m apos) es kws pos) (tMethKw K m a n (kc.map SX.S) ps sp E ta t tk) := by
  subst hK
  rw [← hkc]
  refine ⟨fun pins s σ H Q I h => ?_⟩
  refine PySem.W.methodCall_KW (pl := pl) (thn (he.run pins s σ H _ I h) fun u s1 ⟨y, H1, I1, ry, b, C, dx, fs, ey, eb, c, hm, l, q1⟩ => ?_) ht
  subst ey
  obtain rfl : u = Value.ref b := ry
  refine getmeth_ok I1 eb c hm l ?_
  refine callWith_any hm.kp ha hkw hn hse hall hks hpl I1 q1 fun us vs ws zs s2 H2 I2 r rz ⟨l1, l2, l3, nd, hb, q2⟩ => ?_
  have e1 : (ks.zip zs).map (·.1) = ks := List.map_fst_zip (by omega)
  refine run_Kw (us := .ref b :: us) (vs := .ref b :: vs) F hr (hx σ) I2 (.cons rfl r) (KV_zip rz) l1 (by rw [e1]; exact nd) (fun p hp => hb _ (by rw [← e1]; exact List.mem_map_of_mem hp)) ?_ q2
  rw [List.length_zip, sizeLine_eq]
  omega
end
section
variable {K : PySem.W.Frag} {ta : TE} {ma : Mo D} {tas tks : TA} {mas mks : Mo (List D)} {W : WX} {ct : CTab}
def mMethKw (ct : CTab) (cs : List String) (nm : String) (n : Nat) (kc : List Codes) (ps : List Str) (f : List D → Store → Rs D) (o : Mo D) (a k : Mo (List D)) : Mo D := fun env μ => (o env μ).nr.bind fun x μ0 => match clsOf μ0 x with
  | some (c, ns, _) => if cs.contains c = true ∧ ct.names.contains c = true ∧ ns.contains nm = false then (a env μ0).nr.bind fun ds μ1 => (k env μ1).nr.bind fun es μ2 =>
      if ds.length + 1 = n ∧ es.length = kc.length ∧ kc.length ≤ 1000 ∧ kc.Nodup ∧ (kc.all fun l => !ps.contains (SX.S l)) = true then f ((x :: ds) ++ [.dic false (kc.map D.str) es]) μ2 else .no else .no
  | none => .no
theorem x_methKw {cs : List String} {nm : String} {a : Addr} {n : Nat} {kc : List Codes} {ps : List Str} {f : List D → Store → Rs D} (G : ClsOk K ct) (hm : ∀ c ∈ cs, Meth K (He.ga K c) (nm : Str) a)
    (h0 : EvD K ta ma) (h : EvS K tas mas) (hk : EvS K tks mks) : EvX K W (tMethKw K (nm : Str) a n (kc.map SX.S) ps (modSpX K f) (WE W) ta tas tks) (mMethKw ct cs nm n kc ps f ma mas mks) := by
  have core : ∀ (A : List Addr) (M : Addr → Prop) (μ : Store) (H : Hp) (σ : L2.St) (env : En) (r : Rs D), Ok K A M μ H → EnvRep K A M H σ env → mMethKw ct cs nm n kc ps f ma mas mks env μ = r → r ≠ .no → ∀ Q : VK,
      (∀ (A2 : List Addr) (H2 : Hp) (μ2 : Store) (es : List D) (vs : List V), Fut A H A2 H2 → Ok K A2 M μ2 H2 → RepL K A2 M H2 vs es → f es μ2 = r → modSpX K f vs H2 Q (WE W σ)) → tMethKw K (nm : Str) a n (kc.map SX.S) ps (modSpX K f) (WE W) ta tas tks σ H Q := by
    intro A M μ H σ env r ok en e hr Q q
    unfold mMethKw at e
    cases e1 : ma env μ with
    | no => rw [e1] at e; exact absurd e.symm hr
    | rz => rw [e1] at e; exact absurd e.symm hr
    | ok x μ0 =>
      rw [e1] at e
      rw [Rs.nr_k, Rs.bind_k] at e
      split at e
      · rename_i c ns _ hc
        split at e
        · rename_i hcs
          cases e2 : mas env μ0 with
          | no => rw [e2] at e; exact absurd e.symm hr
          | rz => rw [e2] at e; exact absurd e.symm hr
          | ok ds μ1 =>
            rw [e2, Rs.nr_k, Rs.bind_k] at e
            cases e3 : mks env μ1 with
            | no => rw [e3] at e; exact absurd e.symm hr
            | rz => rw [e3] at e; exact absurd e.symm hr
            | ok es μ2 =>
              rw [e3, Rs.nr_k, Rs.bind_k] at e
              split at e
              · rename_i hc2
                obtain ⟨c1, c2, c3, c4, c5⟩ := hc2
                refine h0 A M μ H σ env x μ0 ok en e1 _ fun v H0 A0 f0 ok0 r0 => ?_
                obtain ⟨b, y, us, rfl, hb, hl, _⟩ := clsOf_rep ok0 r0 hc
                refine ⟨b, _, y, _, rfl, hb, G.cls c (by simpa using hcs.2.1), hm c (by simpa using hcs.1), noF_rep hcs.2.2, ?_⟩
                refine h A0 M μ0 H0 σ env ds μ1 ok0 (en.go f0.go) e2 _ fun vs H1 A1 f1 ok1 r1 => hk A1 M μ1 H1 σ env es μ2 ok1 (en.go (f0.trans f1).go) e3 _ fun zs H2 A2 f2 ok2 r2 => ?_
                have lz : zs.length = kc.length := by rw [r2.len]; exact c2
                refine ⟨by rw [r1.len]; exact c1, by rw [List.length_map]; exact lz, by rw [List.length_map]; exact c3, List.pairwise_map.mpr (c4.imp fun h z => h (SX.S_inj z)), fun p hp z => ?_, fun d hd => ?_⟩
                · obtain ⟨l, hl', rfl⟩ := List.mem_map.mp hp
                  have := List.all_eq_true.mp c5 l hl'
                  rw [List.contains_iff_mem.mpr z] at this
                  cases this
                · rw [zip_names]
                  have rx : RepL K A2 M H2 (V.ref b :: vs) (x :: ds) := ⟨_, _, rfl, RepD.go (f1.trans f2).go r0, RepL.go f2.go r1⟩
                  refine q A2 _ μ2 ((x :: ds) ++ [.dic false (kc.map D.str) es]) _ (((f0.trans f1).trans f2).trans (.newO hd)) (ok2.new hd) ?_ e
                  refine (RepL.go (Fut.newO hd).go rx).app (.one ⟨d, zs, rfl, ⟨⟨.inl ?_, fun z => nomatch z⟩, ok2.fresh hd⟩, ⟨by rw [List.length_map]; exact lz.symm, ?_⟩, RepL.go (Fut.newO hd).go r2⟩)
                  · rw [upd_same]
                    show some _ = some (dicO false (kc.map D.str) zs)
                    unfold dicO
                    rw [keysD_str]
                    rfl
                  · show (keysD (kc.map D.str)).isSome = true
                    rw [keysD_str]
                    rfl
              · exact absurd e.symm hr
        · exact absurd e.symm hr
      · exact absurd e.symm hr
  refine ⟨fun A M μ H σ env d μ' ok en e Q q => core A M μ H σ env _ ok en e (fun z => nomatch z) Q fun A2 H2 μ2 es vs f2 ok2 r2 e2 => .inl ⟨A2, M, μ2, es, d, μ', ok2, r2, e2, fun v H3 A3 f3 ok3 r3 => q v H3 A3 (f2.trans f3) ok3 r3⟩,
    fun A M μ H σ env c2 ns xs μ' ok en e q Q => core A M μ H σ env _ ok en e (fun z => nomatch z) Q fun A2 H2 μ2 es vs f2 ok2 r2 e2 => .inr ⟨A2, M, μ2, es, c2, ns, xs, μ', ok2, r2, e2, fun H3 A3 cls od f3 ok3 rx => q H3 A3 cls od (f2.trans f3) ok3 rx⟩⟩
def mMethCPX (c : String) (f : List D → Store → Rs D) (o : Mo D) (a : Mo (List D)) : Mo D := fun env μ => (o env μ).nr.bind fun x μ1 => match x with
  | .cls c' => if c' = c then (a env μ1).nr.bind fun ds μ2 => f (.cls c :: ds) μ2 else .no
  | _ => .no
theorem x_methCPX {E : XK} {c : String} {f : List D → Store → Rs D} (h : EvD K ta ma) (h2 : EvS K tas mas) : EvX K (fun cls d _ H => E cls d H) (ClX.tCMeth (He.ga K c) (modSpX K f) E ta tas) (mMethCPX c f ma mas) := by
  have core : ∀ (A : List Addr) (M : Addr → Prop) (μ : Store) (H : Hp) (σ : L2.St) (env : En) (r : Rs D), Ok K A M μ H → EnvRep K A M H σ env → mMethCPX c f ma mas env μ = r → r ≠ .no → ∀ Q : VK,
      (∀ (A2 : List Addr) (H2 : Hp) (μ2 : Store) (es : List D) (vs : List V), Fut A H A2 H2 → Ok K A2 M μ2 H2 → RepL K A2 M H2 vs es → f es μ2 = r → modSpX K f vs H2 Q E) → ClX.tCMeth (He.ga K c) (modSpX K f) E ta tas σ H Q := by
    intro A M μ H σ env r ok en e hr Q q
    unfold mMethCPX at e
    cases e1 : ma env μ with
    | no => rw [e1] at e; exact absurd e.symm hr
    | rz => rw [e1] at e; exact absurd e.symm hr
    | ok x μ1 =>
      rw [e1] at e
      rw [Rs.nr_k, Rs.bind_k] at e
      split at e
      · rename_i c'
        split at e
        · rename_i hc
          subst hc
          cases e3 : mas env μ1 with
          | no => rw [e3] at e; exact absurd e.symm hr
          | rz => rw [e3] at e; exact absurd e.symm hr
          | ok ds μ2 =>
            rw [e3, Rs.nr_k, Rs.bind_k] at e
            refine h A M μ H σ env _ μ1 ok en e1 _ fun v H1 A1 f1 ok1 r1 => ⟨r1, ?_⟩
            refine h2 A1 M μ1 H1 σ env ds μ2 ok1 (en.go f1.go) e3 _ fun vs H2 A2 f2 ok2 r2 => ?_
            exact q A2 _ μ2 (.cls c' :: ds) _ (f1.trans f2) ok2 ⟨_, _, rfl, rfl, r2⟩ e
        · exact absurd e.symm hr
      · exact absurd e.symm hr
  refine ⟨fun A M μ H σ env d μ' ok en e Q q => core A M μ H σ env _ ok en e (fun z => nomatch z) Q fun A2 H2 μ2 es vs f2 ok2 r2 e2 => .inl ⟨A2, M, μ2, es, d, μ', ok2, r2, e2, fun v H3 A3 f3 ok3 r3 => q v H3 A3 (f2.trans f3) ok3 r3⟩,
    fun A M μ H σ env c2 ns xs μ' ok en e q Q => core A M μ H σ env _ ok en e (fun z => nomatch z) Q fun A2 H2 μ2 es vs f2 ok2 r2 e2 => .inr ⟨A2, M, μ2, es, c2, ns, xs, μ', ok2, r2, e2, fun H3 A3 cls od f3 ok3 rx => q H3 A3 cls od (f2.trans f3) ok3 rx⟩⟩
end
end My
namespace My
open PySem PySem.Spec PyProof.Rows L2
section
variable {X : Cx} {n : Nat} {l : List (Addr × Sp)} {pins : List (Addr × Obj)} {σ : L2.St} {H : Hp} {s : Shared}
theorem nf_blt {K : PySem.W.Frag} {C : Addr} {t : String} (ht : t ∈ bltTs) : PySem.W.notFirst K C (.type t) = true := by
  unfold bltTs at ht
  simp only [List.mem_cons, List.not_mem_nil, or_false] at ht
  rcases ht with rfl | rfl | rfl | rfl | rfl | rfl | rfl <;> kernel_rfl
theorem blt_looks {M : Model} (I : Inv X pins σ H s) {y : V} {u : Value} (hb : BltV X.K y H) (ry : RelV y u) : ∃ t ∈ bltTs, PySem.W.Looks M s.heap (typeOf u) (.type t) := by
  rcases hb with rfl | ⟨q, rfl⟩ | ⟨q, rfl⟩ | ⟨q, rfl⟩ | ⟨q, xs, rfl, hq⟩ | ⟨q, xs, rfl, hq⟩ | ⟨q, kvs, rfl, hq⟩
  · cases (show u = Value.none from ry)
    exact ⟨"NoneType", by decide, PySem.W.Looks.of_pure rfl⟩
  · obtain ⟨t, rfl⟩ : ∃ t, u = Value.int q t := ry
    exact ⟨"int", by decide, PySem.W.Looks.of_pure rfl⟩
  · cases (show u = Value.bool q from ry)
    exact ⟨"bool", by decide, PySem.W.Looks.of_pure rfl⟩
  · obtain ⟨t, rfl⟩ : ∃ t, u = Value.str q t := ry
    exact ⟨"str", by decide, PySem.W.Looks.of_pure rfl⟩
  · cases (show u = Value.ref q from ry)
    obtain ⟨its2, r2, ⟨o2, f1, f2, _⟩, _⟩ := I.tuple hq
    exact ⟨"tuple", by decide, fun A Q E s k q => wpAny_typeOf_ref (k _ _ f1) (by rw [f2]; exact q)⟩
  · cases (show u = Value.ref q from ry)
    obtain ⟨its2, r2, ⟨o2, k2, f1, f2, _⟩, _⟩ := I.list hq
    exact ⟨"list", by decide, fun A Q E s k q => wpAny_typeOf_ref (k _ _ f1) (by rw [f2]; exact q)⟩
  · cases (show u = Value.ref q from ry)
    obtain ⟨z1, y1, vs1, r1, o2, es, ep, f1, f2⟩ := dk_rd I.hok hq
    have f2' : o2.cls = .type "dict" := f2.1.1
    exact ⟨"dict", by decide, fun A Q E s k q => wpAny_typeOf_ref (k _ _ f1) (by rw [f2']; exact q)⟩
def rEqI (K : PySem.W.Frag) (l : List (Addr × Sp)) : R2 := fun x y H Q => ∃ a C dx vs g sp, x = .ref a ∧ H a = some (.ins C dx vs) ∧ BltV K y H ∧ PySem.W.findIn K (.ref C) "__eq__" = some (some (.ref g)) ∧ PySem.W.isFn K (.ref g) = true ∧ (g, sp) ∈ l ∧ sp [x, y] H Q E0
theorem op_eqI (F : ∀ p ∈ l, FnR X.prog X.w X.K X.mg X.base CX0 n p.1 p.2) (hr : Room n X.A) : OpR X (compareOp .Eq) (rEqI X.K l) := by
  intro pins s σ H x y v u Q I rx ry h
  obtain ⟨a, C, dx, vs, g, sp, rfl, ha, hb, hs, hf, hl, q⟩ := h
  cases (show v = Value.ref a from rx)
  obtain ⟨od, J⟩ := ins_inst I ha
  obtain ⟨t, ht, lk⟩ := blt_looks (M := model X.prog X.w) I hb ry
  obtain ⟨m, hF⟩ := I.fr
  rw [show compareOp .Eq (.ref a) u = richCompare .Eq (.ref a) u from rfl]
  refine PySem.W.cmp_K (op := .Eq) (tb := .type t) hr.units0 hF I.ok.mod.kin J lk (nf_blt ht) hs hf ?_
  refine wpAny_mono (wpAny_call (run_fnR (us := [.ref a, u]) (vs := [.ref a, y]) (F _ hl) hr pass0 I (.cons rfl (.cons ry .nil)) q)) (fun w s' z => ?_) fun _ _ x => x
  obtain ⟨z', H', I', rz, qz⟩ := z
  exact SlX.cmpback rz ⟨z', H', I', rz, qz⟩
def rNeI (K : PySem.W.Frag) (l : List (Addr × Sp)) : R2 := fun x y H Q => ∃ a C dx vs g sp, x = .ref a ∧ H a = some (.ins C dx vs) ∧ BltV K y H ∧ PySem.W.findIn K (.ref C) "__ne__" = some (some (.builtin "object.__ne__")) ∧ PySem.W.subIn K (.ref C) (.type "object") = some true ∧
  PySem.W.findIn K (.ref C) "__eq__" = some (some (.ref g)) ∧ PySem.W.isFn K (.ref g) = true ∧ (g, sp) ∈ l ∧ sp [x, y] H (fun z H' => ∃ c, z = .bl c ∧ Q (.bl (!c)) H') E0
theorem op_neI (F : ∀ p ∈ l, FnR X.prog X.w X.K X.mg X.base CX0 n p.1 p.2) (hr : Room (n + 1) X.A) : OpR X (compareOp .NotEq) (rNeI X.K l) := by
  intro pins s σ H x y v u Q I rx ry h
  obtain ⟨a, C, dx, vs, g, sp, rfl, ha, hb, hs, ho, he, hf, hl, q⟩ := h
  cases (show v = Value.ref a from rx)
  obtain ⟨od, J⟩ := ins_inst I ha
  obtain ⟨t, ht, lk⟩ := blt_looks (M := model X.prog X.w) I hb ry
  rw [show compareOp .NotEq (.ref a) u = richCompare .NotEq (.ref a) u from rfl]
  refine ne_own (tb := .type t) (by have := hr.un; omega) I.kIn J lk (nf_blt ht) hs ho he hf ?_
  refine wpAny_call (codeAny_mono (F _ hl X.A.in1 X.stack s H [.ref a, u] [.ref a, y] _ E0 hr.in1 I.env0.in1 (.cons rfl (.cons ry .nil)) q) fun res s' hq => ?_)
  cases res with
  | error er => exact hq.elim
  | ok fl =>
    cases fl with
    | ret u =>
      obtain ⟨z', H', I', rz, c, rfl, qz⟩ := I.after hq
      cases (show u = Value.bool c from rz)
      exact ⟨c, rfl, .bl (!c), H', I', rfl, qz⟩
    | next => exact hq.elim
    | brk => exact hq.elim
    | cont => exact hq.elim
def rEqAI (K : PySem.W.Frag) (l : List (Addr × Sp)) : R2 := fun x y H Q => rEqA K l x y H Q ∨ rEqI K l x y H Q
def rNeAI (K : PySem.W.Frag) (l : List (Addr × Sp)) : R2 := fun x y H Q => rNeA K l x y H Q ∨ rNeI K l x y H Q
theorem cm_EqI {K : PySem.W.Frag} (F : ∀ p ∈ l, FnR X.prog X.w X.K X.mg X.base CX0 n p.1 p.2) (hr : Room n X.A) (hK : X.K = K := by rfl) : OpR X (compareOp .Eq) (rEqAI K l) := hK ▸ (cm_EqA F hr).or (op_eqI F hr)
theorem cm_NeI {K : PySem.W.Frag} (F : ∀ p ∈ l, FnR X.prog X.w X.K X.mg X.base CX0 n p.1 p.2) (hr : Room (n + 1) X.A) (hK : X.K = K := by rfl) : OpR X (compareOp .NotEq) (rNeAI K l) := hK ▸ (cm_NeA F hr).or (op_neI F hr)
end
section
variable {K : PySem.W.Frag} {ta tb : TE} {ma mb : Mo D} {ct : CTab}
def mEqI (ct : CTab) (neg : Bool) (tab : OTab) (a b : Mo D) : Mo D := fun env μ => (a env μ).bind fun x μ1 => (b env μ1).bind fun y μ2 => if bltD y = true then (match clsOf μ2 x with
  | some (c, _, _) => (match tab.lookup c with
    | some f => if ct.names.contains c = true then (f [x, y] μ2).bind fun r μ3 => match r with
      | .bl z => .ok (.bl (if neg = true then !z else z)) μ3
      | _ => .no else .no
    | none => .no)
  | none => .no) else (match clsOf μ2 x with
  | some (c, _, _) => (match tab.lookup c, clsOf μ2 y with
    | some f, some (c', _, _) => if ct.names.contains c = true ∧ ct.names.contains c' = true ∧ (c == c' || !isSub ct c' c) = true then (f [x, y] μ2).bind fun r μ3 => match r with
      | .bl z => .ok (.bl (if neg = true then !z else z)) μ3
      | _ => .no else .no
    | _, _ => .no)
  | none => Rs.of (if neg = true then dNe μ2 x y else dEq μ2 x y) μ2)
theorem eqI_core {A2 : List Addr} {M : Addr → Prop} {μ2 μ' : Store} {H2 : Hp} {d : D} {neg : Bool} {tab : OTab} {x y : D} {vx vy : V} (G : ClsOk K ct) (O : OwnOk K "__eq__" tab) (ok2 : Ok K A2 M μ2 H2) (rx : RepD K A2 M H2 vx x) (ry : RepD K A2 M H2 vy y) (hy : bltD y = true)
    (e : (match clsOf μ2 x with
      | some (c, _, _) => (match tab.lookup c with
        | some f => if ct.names.contains c = true then (f [x, y] μ2).bind fun r μ3 => match r with
          | .bl z => Rs.ok (D.bl (if neg = true then !z else z)) μ3
          | _ => .no else .no
        | none => .no)
      | none => .no) = .ok d μ') {Q : VK} (q : ∀ v H' A', Fut A2 H2 A' H' → Ok K A' M μ' H' → RepD K A' M H' v d → Q v H') :
    if neg = true then rNeI K (ownL K "__eq__" tab) vx vy H2 Q else rEqI K (ownL K "__eq__" tab) vx vy H2 Q := by
  split at e
  · rename_i c ns1 ds1 hx
    split at e
    · rename_i f hf
      split at e
      · rename_i hc
        obtain ⟨r, μ3, e1, e2⟩ := Rs.bind_ok e
        split at e2
        · rename_i z
          cases e2
          obtain ⟨a, xa, us, rfl, ha, _, _⟩ := clsOf_rep ok2 rx hx
          have hm := lookup_mem hf
          have mt := O _ hm
          have h1 : c ∈ ct.names := by simpa using hc
          have hl : (He.ma K (He.ga K c) ("__eq__" : Str), modSp K f) ∈ ownL K "__eq__" tab := List.mem_map_of_mem hm
          have hb := bltD_ok hy ry
          cases neg with
          | false =>
            rw [if_neg (by decide)]
            exact ⟨a, _, xa, _, _, _, rfl, ha, hb, mt.at_, mt.fn, hl, A2, M, μ2, [x, y], .bl z, _, ok2, ⟨_, _, rfl, rx, .one ry⟩, e1, fun v H3 A3 f3 ok3 r3 => q v H3 A3 f3 ok3 r3⟩
          | true =>
            rw [if_pos rfl]
            obtain ⟨_, _, n1, n2⟩ := G.tyo c h1
            exact ⟨a, _, xa, _, _, _, rfl, ha, hb, n1, n2, mt.at_, mt.fn, hl, A2, M, μ2, [x, y], .bl z, _, ok2, ⟨_, _, rfl, rx, .one ry⟩, e1, fun v H3 A3 f3 ok3 r3 => ⟨z, r3, q _ H3 A3 f3 ok3 rfl⟩⟩
        · cases e2
      · cases e
    · cases e
  · cases e
theorem d_eqI {tab : OTab} (G : ClsOk K ct) (O : OwnOk K "__eq__" tab) (h : EvD K ta ma) (h2 : EvD K tb mb) : EvD K (tOp (rEqAI K (ownL K "__eq__" tab)) ta tb) (mEqI ct false tab ma mb) := fun A M μ H σ env d μ' ok en e Q f => by
  obtain ⟨x, μ1, e1, e2⟩ := Rs.bind_ok e
  obtain ⟨y, μ2, e3, e4⟩ := Rs.bind_ok e2
  refine h A M μ H σ env x μ1 ok en e1 _ fun v H1 A1 f1 ok1 r1 => h2 A1 M μ1 H1 σ env y _ ok1 (en.go f1.go) e3 _ fun w H2 A2 f2 ok2 r2 => ?_
  split at e4
  · rename_i hy
    have := eqI_core (neg := false) G O ok2 (RepD.go f2.go r1) r2 hy e4 (Q := Q) fun v H3 A3 f3 ok3 r3 => f v H3 A3 ((f1.trans f2).trans f3) ok3 r3
    rw [if_neg (by decide)] at this
    exact .inr this
  · have := eqA_core (neg := false) G O ok2 (RepD.go f2.go r1) r2 e4 (Q := Q) fun v H3 A3 f3 ok3 r3 => f v H3 A3 ((f1.trans f2).trans f3) ok3 r3
    rw [if_neg (by decide)] at this
    exact .inl this
theorem d_neI {tab : OTab} (G : ClsOk K ct) (O : OwnOk K "__eq__" tab) (h : EvD K ta ma) (h2 : EvD K tb mb) : EvD K (tOp (rNeAI K (ownL K "__eq__" tab)) ta tb) (mEqI ct true tab ma mb) := fun A M μ H σ env d μ' ok en e Q f => by
  obtain ⟨x, μ1, e1, e2⟩ := Rs.bind_ok e
  obtain ⟨y, μ2, e3, e4⟩ := Rs.bind_ok e2
  refine h A M μ H σ env x μ1 ok en e1 _ fun v H1 A1 f1 ok1 r1 => h2 A1 M μ1 H1 σ env y _ ok1 (en.go f1.go) e3 _ fun w H2 A2 f2 ok2 r2 => ?_
  split at e4
  · rename_i hy
    have := eqI_core (neg := true) G O ok2 (RepD.go f2.go r1) r2 hy e4 (Q := Q) fun v H3 A3 f3 ok3 r3 => f v H3 A3 ((f1.trans f2).trans f3) ok3 r3
    rw [if_pos rfl] at this
    exact .inr this
  · have := eqA_core (neg := true) G O ok2 (RepD.go f2.go r1) r2 e4 (Q := Q) fun v H3 A3 f3 ok3 r3 => f v H3 A3 ((f1.trans f2).trans f3) ok3 r3
    rw [if_pos rfl] at this
    exact .inl this
end
end My
namespace My
open PySem PySem.Spec PyProof.Rows L2
theorem takes_lock {X : Cx} {W : WX} (tk : L2.Takes X W) : L2.Takes X (WL X W) := fun e s' ⟨a, B, sI, pins, σ, H, cls, d, ex, I, nb, up, sky, na, os, ag, w⟩ => by
  rcases w with w | ⟨p, od, u, hp, nf, w⟩
  · exact tk e s' ⟨a, B, sI, pins, σ, H, cls, d, ex, I, nb, up, sky, na, os, ag, w⟩
  · refine tk e s' ⟨a, B, sI, pins, σ, upd H p u, cls, d, ex, I.unlock hp nf, nb, up, sky, ?_, os, ag, w⟩
    rw [upd_ne fun z => by rw [z, hp] at na; cases na]
    exact na
def tLockN (X : Cx) (t : TS) : TS := fun D σ H => ∃ d u, H d = some u ∧ Mut (some u) ∧ ∀ od, (∀ o' u', X.H_0 d ≠ some (.frz o' u')) → t ⟨fun σ' H' => H' d = some (.frz od u) ∧ D.nx σ' (upd H' d u), fun v H' => H' d = some (.frz od u) ∧ D.rt v (upd H' d u), fun σ' H' => H' d = some (.frz od u) ∧ D.bk σ' (upd H' d u), fun σ' H' => H' d = some (.frz od u) ∧ D.ct σ' (upd H' d u)⟩ σ (upd H d (.frz od u))
theorem ps_lockN {X : Cx} {st : Stmt} {t : TS} (h : PS X st t) : PS X st (tLockN X t) := by
  refine ⟨fun pins s σ H D I hw => ?_⟩
  obtain ⟨d, u, hd, mu, hw⟩ := hw
  obtain ⟨od, I1⟩ := I.lock hd mu
  refine thn (h.run pins s σ _ _ I1 (hw od (I.nofrz hd mu))) fun f s1 q => ?_
  cases f with
  | next => obtain ⟨σ', H', I2, e, q⟩ := q; exact ⟨σ', _, I2.unlock e (I.nofrz hd mu), q⟩
  | brk => obtain ⟨σ', H', I2, e, q⟩ := q; exact ⟨σ', _, I2.unlock e (I.nofrz hd mu), q⟩
  | cont => obtain ⟨σ', H', I2, e, q⟩ := q; exact ⟨σ', _, I2.unlock e (I.nofrz hd mu), q⟩
  | ret v => obtain ⟨x, σ', H', I2, r, e, q⟩ := q; exact ⟨x, σ', _, I2.unlock e (I.nofrz hd mu), r, q⟩
def tLkX (X : Cx) (t : TS) : TS := fun D σ H => tLockN X t D σ H ∨ t D σ H
theorem ps_lkX {X : Cx} {st : Stmt} {t : TS} (h : PS X st t) : PS X st (tLkX X t) := ⟨fun pins s σ H D I hw => hw.elim (fun z => (ps_lockN h).run pins s σ H D I z) fun z => h.run pins s σ H D I z⟩
section
variable {K : PySem.W.Frag} {W : WX} {X : Cx} {A A' : List Addr} {M : Addr → Prop} {H H' : Hp} {p : Addr} {t1 : TS} {s1 : MS} {g : TG} {js : List Nat} {tg : Tg} {td : TE} {md : Mo D} {E : Ends} {r : Ro}
def sForIX (md : Mo D) (tg : Tg) (body : MS) : MS := fun env μ => match md env μ with
  | .ok (.dic false ks xs) μ1 => forGo none tg body (itmL ks xs) env μ1
  | _ => .no
theorem t_forIX (hd : EvV K td md) (hg : GD K g js tg) (hb : StD K (some (WL X W)) t1 s1) : StD K (some W) (fun D σ H => tLkX X (tFor (iItems td) g t1) D σ H) (sForIX md tg s1) := fun A M μ H σ env E ok en p => by
  unfold sForIX at p
  split at p
  · rename_i ks xs μ1 e3
    obtain ⟨rfl, v, hv, hq⟩ := hd A M μ H σ env _ _ ok en e3
    obtain ⟨a, us, rfl, hp, ⟨hl, hk⟩, rr⟩ := hv
    obtain ⟨q, hks⟩ : ∃ q, keysD ks = some q := Option.isSome_iff_exists.mp hk
    have hql : q.length = us.length := (keysD_len hks).trans hl
    have hrd : Rd H a (.dK (q.zip us)) := by
      have h := hp.1.1
      unfold dicO at h
      rw [hks] at h
      exact h
    have run : ∀ {od : Obj} {H1 : Hp} {E1 : Ends}, H1 a = some (.frz od (.dK (q.zip us))) → Ok K A M μ1 H1 → EnvRep K A M H1 σ env → RepL K A M H1 us xs → (∀ a o, H a = some o → (∀ k, o ≠ .dK k) → (∀ z k, o ≠ .frz z k) → H1 a = some o) →
        Post K (some (WL X W)) A M H1 E1 (forGo none tg s1 (itmL ks xs) env μ1) → tFor (iItems td) g t1 E1 σ H1 := fun {od H1 E1} h1 ok1 en1 r1 ag f1 =>
      t_for_at (fun R hR => hq _ _ ag ⟨a, od, _, rfl, h1, hR _ H1 A .refl ok1 (it_items hks hql h1 hp.2 r1)⟩) hg hb en1 f1
    rcases hrd with h | ⟨od, h⟩
    · refine .inl ⟨a, _, h, trivial, fun od nf => ?_⟩
      have l : LkS A M a (q.zip us) H (upd H a (.frz od (.dK (q.zip us)))) := LkS.lock h hp.2
      refine run upd_same (ok.lk l) (en.lk l) (RepL.lk l rr) (fun a o ha n1 n2 => l.ne ha n1 n2) ?_
      cases e : forGo none tg s1 (itmL ks xs) env μ1 with
      | nx en4 m4 =>
        rw [e] at p
        intro σ' H' A' fu ok' en'
        obtain ⟨z1, z2, z3⟩ := unlock_fut h hp.2 fu
        exact ⟨z1, p σ' _ A' z3 (ok'.lk z2) (en'.lk z2)⟩
      | ct en4 m4 =>
        rw [e] at p
        intro σ' H' A' fu ok' en'
        obtain ⟨z1, z2, z3⟩ := unlock_fut h hp.2 fu
        exact ⟨z1, p σ' _ A' z3 (ok'.lk z2) (en'.lk z2)⟩
      | bk en4 m4 =>
        rw [e] at p
        intro σ' H' A' fu ok' en'
        obtain ⟨z1, z2, z3⟩ := unlock_fut h hp.2 fu
        exact ⟨z1, p σ' _ A' z3 (ok'.lk z2) (en'.lk z2)⟩
      | rt d4 m4 =>
        rw [e] at p
        intro v H' A' fu ok' r'
        obtain ⟨z1, z2, z3⟩ := unlock_fut h hp.2 fu
        exact ⟨z1, p v _ A' z3 (ok'.lk z2) (RepD.lk z2 r')⟩
      | rz c ns ds e2 m =>
        rw [e] at p
        intro σ' H' A' cls od' fu ok' en' rx
        obtain ⟨z1, z2, z3⟩ := unlock_fut h hp.2 fu
        refine .inr ⟨a, od, _, z1, nf, p σ' _ A' cls od' z3 (ok'.lk z2) (en'.lk z2) ?_⟩
        obtain ⟨ec, vs, x1, x2, x3, x4⟩ := rx
        exact ⟨ec, vs, fun q hq => ⟨z2.ne (x1 q hq).1 (fun k z => nomatch z) (fun _ _ z => nomatch z), (x1 q hq).2⟩, x2, x3, RepL.lk z2 x4⟩
      | no => rw [e] at p; exact p
    · exact .inr (run h ok en rr (fun a o ha _ _ => ha) (Post.wl p))
  · exact p.elim
end
end My
namespace My
open PySem PySem.Spec PyProof.Rows L2
structure Tx (K : PySem.W.Frag) (mg : Str → Option Value) : Prop where
  d_is_word : Df K mg "is_word" s_is_word
  d_is_value : Df K mg "is_value" s_is_value
  d_plain_text : Df K mg "plain_text" s_plain_text
  d_is_plain : Df K mg "is_plain" s_is_plain
  d_escaped : Df K mg "escaped" s_escaped
  d_value_at : Df K mg "value_at" s_value_at
  d_read_name : Df K mg "read_name" s_read_name
  d_leaf_text : Df K mg "leaf_text" s_leaf_text
  d_normal_leaf : Df K mg "normal_leaf" s_normal_leaf
  d_order_of : Df K mg "order_of" s_order_of
  d_need_name : Df K mg "need_name" s_need_name
  d_need_table : Df K mg "need_table" s_need_table
  d_l_cell : Df K mg "_law_cell" s_l_cell
  d_l_draw : Df K mg "_law_draw" s_l_draw
  d_l_of : Df K mg "_law_of" s_l_of
  d_l_words : Df K mg "_law_words" s_l_words
  d_l_values : Df K mg "_law_values" s_l_values
  d_l_text : Df K mg "_law_text" s_l_text
  d_l_is_model : Df K mg "_law_is_model" s_l_is_model
  d_l_put : Df K mg "_law_put" s_l_put
  d_l_changed : Df K mg "_law_changed" s_l_changed
  d_l_refused : Df K mg "_law_refused" s_l_refused
  d_law : Df K mg "law" s_law
  d_Name___init : DfA K (He.ma K (He.ga K "Name") "__init__") "__init__" "Name.__init__" s_Name___init [V.str ""] []
  d_Name_text : DfA K (gp K "Name" "text") "text" "Name.text" s_Name_text [] []
  d_Name___eq : DfA K (He.ma K (He.ga K "Name") "__eq__") "__eq__" "Name.__eq__" s_Name___eq [] []
  d_Entry___init : DfA K (He.ma K (He.ga K "Entry") "__init__") "__init__" "Entry.__init__" s_Entry___init [] []
  d_Entry_of : DfA K (gc K "Entry" "of") "of" "Entry.of" s_Entry_of [] []
  d_Entry_name : DfA K (gp K "Entry" "name") "name" "Entry.name" s_Entry_name [] []
  d_Entry_words : DfA K (gp K "Entry" "words") "words" "Entry.words" s_Entry_words [] []
  d_Entry___getitem : DfA K (He.ma K (He.ga K "Entry") "__getitem__") "__getitem__" "Entry.__getitem__" s_Entry___getitem [] []
  d_Entry___eq : DfA K (He.ma K (He.ga K "Entry") "__eq__") "__eq__" "Entry.__eq__" s_Entry___eq [] []
  d_Entry_with_values : DfA K (He.ma K (He.ga K "Entry") "with_values") "with_values" "Entry.with_values" s_Entry_with_values [] []
  d_Entry_renamed : DfA K (He.ma K (He.ga K "Entry") "renamed") "renamed" "Entry.renamed" s_Entry_renamed [] []
  G : ClsOk K ctab
  k_BadEntry : mg "BadEntry" = some (.ref (He.ga K "BadEntry"))
  k_BadName : mg "BadName" = some (.ref (He.ga K "BadName"))
  k_Entry : mg "Entry" = some (.ref (He.ga K "Entry"))
  k_Name : mg "Name" = some (.ref (He.ga K "Name"))
  mk_Entry : Mk K (He.ga K "Entry") (He.ma K (He.ga K "Entry") "__init__")
  mk_Name : Mk K (He.ga K "Name") (He.ma K (He.ga K "Name") "__init__")
  p_Entry_name : ∀ c ∈ ["Entry"], ∃ p, PropOf K (He.ga K c) "name" p (gp K "Entry" "name")
  p_Entry_words : ∀ c ∈ ["Entry"], ∃ p, PropOf K (He.ga K c) "words" p (gp K "Entry" "words")
  p_Name_text : ∀ c ∈ ["Name"], ∃ p, PropOf K (He.ga K c) "text" p (gp K "Name" "text")
  it_Entry : itmB K "Entry" = true
  er_BadName : ErrT K (He.ga K "BadName") (nmS ["given"]) fileS
  er_BadEntry : ErrT K (He.ga K "BadEntry") (nmS ["given"]) fileS
  Ec : EcOk K ecs
  Er : ErrOk K ecs efs
  cm_Entry_of : CM K "Entry" "of"
  mt_Entry___eq : ∀ c ∈ ["Entry"], Meth K (He.ga K c) "__eq__" (He.ma K (He.ga K "Entry") "__eq__")
  mt_Entry_renamed : ∀ c ∈ ["Entry"], Meth K (He.ga K c) "renamed" (He.ma K (He.ga K "Entry") "renamed")
  mt_Entry_with_values : ∀ c ∈ ["Entry"], Meth K (He.ga K c) "with_values" (He.ma K (He.ga K "Entry") "with_values")
  mt_Name___eq : ∀ c ∈ ["Name"], Meth K (He.ga K c) "__eq__" (He.ma K (He.ga K "Name") "__eq__")
  b_len : mg "len" = none
  b_isinstance : mg "isinstance" = none
  b_str : mg "str" = none
  b_all : mg "all" = none
  b_enumerate : mg "enumerate" = none
  b_tuple : mg "tuple" = none
  b_sorted : mg "sorted" = none
  b_dict : mg "dict" = none
  b_super : mg "super" = none
  b_max : mg "max" = none
  b_int : mg "int" = none
  b_range : mg "range" = none
  b_reversed : mg "reversed" = none
  b_list : mg "list" = none
  g_MAX_WORD : ∃ t, mg "MAX_WORD" = some (.int 12 t)
  g_LETTERS : ∃ t, mg "LETTERS" = some (.str "abcdefghijklmnopqrstuvwxyz" t)
  g_MAX_TEXT : ∃ t, mg "MAX_TEXT" = some (.int 60 t)
  g_ESCAPED : ∃ t, mg "ESCAPED" = some (.str ",+=\\" t)
  g_BACKSLASH : ∃ t, mg "BACKSLASH" = some (.str "\\" t)
  g_MAX_PAIRS : ∃ t, mg "MAX_PAIRS" = some (.int 4 t)
  g_MAX_LEAVES : ∃ t, mg "MAX_LEAVES" = some (.int 12 t)
end My
namespace My
open PySem PySem.Spec PyProof.Rows L2
theorem hob_eq (s : PySem.W.SharedT) : hob s = hhk.obs s.abs := obsY_eq (HandSHeadRun.getT_eq s)
end My
namespace My
open PySem PySem.Spec PyProof.Rows L2
section
variable {P : Program} [hP : OkP fileS P] {w : World} {K : PySem.W.Frag} {mg : Str → Option Value} {base : Heap}
abbrev N_is_word : List Str := ["value", "sign"]
theorem sc_is_word : FnScope N_is_word ["value"] (defScope s_is_word) := ⟨rfl, rfl, rfl, by decide +kernel, rfl, by decide +kernel, by decide +kernel⟩
def le_is_word_1 : Mo D := (mOp dInD (mVar 1) (mC (D.str [97, 98, 99, 100, 101, 102, 103, 104, 105, 106, 107, 108, 109, 110, 111, 112, 113, 114, 115, 116, 117, 118, 119, 120, 121, 122])))
def b_is_word : MS := (sSeq (sIf (mOr (mNot (mTest (mCb (dIsiC ctab) (mCons (mVar 0) (mCons (mC (D.ty "str")) mNil))))) (mOr (mNot (mTest (mChain dLe dLe (mC (D.int 1)) (mCb dLen (mCons (mVar 0) mNil)) (mC (D.int 12))))) (mTest (mOp dEq (mVar 0) (mC (D.str [115, 101, 108, 102])))))) (sRet (mC (D.bl false))) sNext)
    (sRet (mCb dAll (mCons (mFz (mLc (mIter (mVar 0)) (tgName 1) (mC true) le_is_word_1 [1])) mNil))))
def m_is_word : List D → Store → Rs D := fnK 1 1 b_is_word
theorem c_is_word (T : Tx K mg) : Cal P w K mg base 1 "is_word" ["value"] (modSp K m_is_word) := by
  refine cal_K (body := b_is_word) (nl := 1) T.d_is_word sc_is_word rfl (fun _ _ _ _ _ _ us hl => match us, hl with | [_], _ => rfl) (fun f cdv A outer s H E hr => ⟨_, (pss_cons (ps_if (PW.pt (pw_or (pt_not (pt_val (pe_callB (call_isiA (K := K)) (by rfl) T.b_isinstance (by decide +kernel) (pa_cons (pv 0) (pa_cons (pe_bty (T := "str") (by rfl) T.b_str (by decide +kernel)) pa_nil))))) (pw_or (pt_not (pt_chain cm_LtE cm_LtE pe_int (pe_callB (call_lenA (K := K)) (by rfl) T.b_len (by decide +kernel) (pa_cons (pv 0) pa_nil)) (pe_globI (by rfl) T.g_MAX_WORD))) (pw_or1 (pt_cmpR (cm_Eq (K := K) hr.units) (pv 0) pe_str (nomark _)))))) (pss_one (ps_ret pe_bl)) pss_nil)
      (pss_one (ps_ret (pe_callB (call_allA (K := K)) (by rfl) T.b_all (by decide +kernel) (pa_cons (pe_lc (own := [("sign", 1)]) (by rfl) sc_is_word.nd (pi_any (K := K) (pv 0)) (blkOk_by (own := [("sign", 1)]) (N := N_is_word) (sc := defScope s_is_word) (by decide +kernel)) (fun _ _ _ _ _ => (pg_name (i := 1) sc_is_word.nd rfl (by first | exact Or.inl rfl | exact Or.inr rfl))) (fun _ _ _ _ _ => pts_nil) (fun _ _ _ _ _ => (pe_cmpR (cm_InD (K := K) (hu65 hr)) (pv 1) (pe_globS (by rfl) T.g_LETTERS) (by rfl)))) pa_nil))))), ?_⟩)
  exact (t_seq (t_if (b_or (b_not (b_B (d_cb (cd_isiC T.G) (s_cons (d_var 0) (s_cons d_ty s_nil))))) (b_or (b_not (b_test (d_chain od_le od_le d_int (d_cb cd_len (s_cons (d_var 0) s_nil)) d_int))) (b_test (d_op od_eq (d_var 0) (d_str [115, 101, 108, 102] (by decide +kernel)))))) (t_ret d_bl) t_next)
      (t_ret (d_cb cd_all (s_cons (d_fz (c_lc (vs := [1]) (i_any (d_var 0)) (g_name 1) (by decide) b_yes (d_op od_inD (d_var 1) (d_str [97, 98, 99, 100, 101, 102, 103, 104, 105, 106, 107, 108, 109, 110, 111, 112, 113, 114, 115, 116, 117, 118, 119, 120, 121, 122] (by decide +kernel))))) s_nil))))
abbrev N_is_value : List Str := ["value"]
theorem sc_is_value : FnScope N_is_value ["value"] (defScope s_is_value) := ⟨rfl, rfl, rfl, by decide +kernel, rfl, by decide +kernel, by decide +kernel⟩
def b_is_value : MS := (sRet (mAndV (mCb (dIsiC ctab) (mCons (mVar 0) (mCons (mC (D.ty "str")) mNil))) (mAndV (mOp dNe (mVar 0) (mC (D.str []))) (mOp dNiD (mC (D.str [10])) (mVar 0)))))
def m_is_value : List D → Store → Rs D := fnK 1 0 b_is_value
theorem c_is_value (T : Tx K mg) : Cal P w K mg base 1 "is_value" ["value"] (modSp K m_is_value) := by
  refine cal_K (body := b_is_value) (nl := 0) T.d_is_value sc_is_value rfl (fun _ _ _ _ _ _ us hl => match us, hl with | [_], _ => rfl) (fun f cdv A outer s H E hr => ⟨_, (pss_one (ps_ret (pe_and (pe_callB (call_isiA (K := K)) (by rfl) T.b_isinstance (by decide +kernel) (pa_cons (pv 0) (pa_cons (pe_bty (T := "str") (by rfl) T.b_str (by decide +kernel)) pa_nil))) (pe_and (pe_cmpR (cm_NotEq (K := K) hr.units) (pv 0) pe_str (nomark _)) (pe_one (pe_cmpR (cm_NotInD (K := K) (hu65 hr)) pe_str (pv 0) (by rfl))))))), ?_⟩)
  exact (t_ret (d_andV (d_cb (cd_isiC T.G) (s_cons (d_var 0) (s_cons d_ty s_nil))) (d_andV (d_op od_ne (d_var 0) (d_str [] (by decide +kernel))) (d_op od_niD (d_str [10] (by decide +kernel)) (d_var 0)))))
abbrev N_plain_text : List Str := ["value", "part"]
theorem sc_plain_text : FnScope N_plain_text ["value"] (defScope s_plain_text) := ⟨rfl, rfl, rfl, by decide +kernel, rfl, by decide +kernel, by decide +kernel⟩
def le_plain_text_1 : Mo D := (mVar 1)
def lt_plain_text_2 : Mo Bool := (mTest (mOp dNe (mVar 1) (mC (D.str []))))
def b_plain_text : MS := (sRet (mBm dJoin (mC (D.str [32])) (mCons (mFz (mLc (mIter (mFz (mBc lSplit (mBm dLower (mVar 0) mNil) (mCons (mC (D.str [32])) mNil)))) (tgName 1) lt_plain_text_2 le_plain_text_1 [1])) mNil)))
def m_plain_text : List D → Store → Rs D := fnK 1 1 b_plain_text
theorem c_plain_text (T : Tx K mg) : Cal P w K mg base 1 "plain_text" ["value"] (modSp K m_plain_text) := by
  refine cal_K (body := b_plain_text) (nl := 1) T.d_plain_text sc_plain_text rfl (fun _ _ _ _ _ _ us hl => match us, hl with | [_], _ => rfl) (fun f cdv A outer s H E hr => ⟨_, (pss_one (ps_ret (pe_bmK (K := K) PySem.F.plainAttrs_str PySem.F.slot_str_join PySem.F.type_str_join (mt_joinA (K := K)) pe_str (pa_cons (pe_lc (own := [("part", 1)]) (by rfl) sc_plain_text.nd (pi_any (K := K) (pe_bmK (K := K) PySem.F.plainAttrs_str PySem.F.slot_str_split PySem.F.type_str_split mt_splitA (pe_bm0K (K := K) PySem.F.plainAttrs_str PySem.F.slot_str_lower PySem.F.type_str_lower mt_lowerA (pv 0)) (pa_cons pe_str pa_nil))) (blkOk_by (own := [("part", 1)]) (N := N_plain_text) (sc := defScope s_plain_text) (by decide +kernel)) (fun _ _ _ _ _ => (pg_name (i := 1) sc_plain_text.nd rfl (by first | exact Or.inl rfl | exact Or.inr rfl))) (fun _ _ _ _ _ => (pts_one (pt_cmpR (cm_NotEq (K := K) hr.units) (pv 1) pe_str (nomark _)))) (fun _ _ _ _ _ => (pv 1))) pa_nil)))), ?_⟩)
  exact (t_ret (d_bm md_join (d_str [32] (by decide +kernel)) (s_cons (d_fz (c_lc (vs := [1]) (i_any (d_fz (c_bm mc_split (d_bm0 md_lower (d_var 0)) (s_cons (d_str [32] (by decide +kernel)) s_nil)))) (g_name 1) (by decide) (b_test (d_op od_ne (d_var 1) (d_str [] (by decide +kernel)))) (d_var 1))) s_nil)))
abbrev N_is_plain : List Str := ["value"]
theorem sc_is_plain : FnScope N_is_plain ["value"] (defScope s_is_plain) := ⟨rfl, rfl, rfl, by decide +kernel, rfl, by decide +kernel, by decide +kernel⟩
def b_is_plain : MS := (sRet (mAndV (mCall m_is_value (mCons (mVar 0) mNil)) (mAndV (mOp dLe (mCb dLen (mCons (mVar 0) mNil)) (mC (D.int 60))) (mOp dNe (mCall m_plain_text (mCons (mVar 0) mNil)) (mC (D.str []))))))
def m_is_plain : List D → Store → Rs D := fnK 1 0 b_is_plain
theorem c_is_plain (T : Tx K mg) : Cal P w K mg base 2 "is_plain" ["value"] (modSp K m_is_plain) := by
  have C_plain_text := c_plain_text (P := P) (w := w) (base := base) T
  have C_is_value := c_is_value (P := P) (w := w) (base := base) T
  refine cal_K (body := b_is_plain) (nl := 0) T.d_is_plain sc_is_plain rfl (fun _ _ _ _ _ _ us hl => match us, hl with | [_], _ => rfl) (fun f cdv A outer s H E hr => ⟨_, (pss_one (ps_ret (pe_and (pe_callC C_is_value (hr.mono (by decide)) (by rfl) (pa_cons (pv 0) pa_nil)) (pe_and (pe_cmpR cm_LtE (pe_callB (call_lenA (K := K)) (by rfl) T.b_len (by decide +kernel) (pa_cons (pv 0) pa_nil)) (pe_globI (by rfl) T.g_MAX_TEXT) (nomark _)) (pe_one (pe_cmpR (cm_NotEq (K := K) hr.units) (pe_callC C_plain_text (hr.mono (by decide)) (by rfl) (pa_cons (pv 0) pa_nil)) pe_str (nomark _))))))), ?_⟩)
  exact (t_ret (d_andV (d_call (s_cons (d_var 0) s_nil)) (d_andV (d_op od_le (d_cb cd_len (s_cons (d_var 0) s_nil)) d_int) (d_op od_ne (d_call (s_cons (d_var 0) s_nil)) (d_str [] (by decide +kernel))))))
abbrev N_escaped : List Str := ["value", "found", "at", "sign", "is_end"]
theorem sc_escaped : FnScope N_escaped ["value"] (defScope s_escaped) := ⟨rfl, rfl, rfl, by decide +kernel, rfl, by decide +kernel, by decide +kernel⟩
def lb_escaped_1 : MS := (sSeq (sAsg (mOrV (mOp dEq (mVar 2) (mC (D.int 0))) (mOp dEq (mVar 2) (mOp dSub (mCb dLen (mCons (mVar 0) mNil)) (mC (D.int 1))))) (tgName 4))
    (sAsg (mOp dAdd (mOp dAdd (mVar 1) (mIf (mOr (mTest (mOp dInD (mVar 3) (mC (D.str [44, 43, 61, 92])))) (mAnd (mTest (mOp dEq (mVar 3) (mC (D.str [32])))) (mTest (mVar 4)))) (mC (D.str [92])) (mC (D.str [])))) (mVar 3)) (tgName 1)))
def b_escaped : MS := (sSeq (sAsg (mC (D.str [])) (tgName 1))
    (sSeq (sFor (mEnumA (mCons (mVar 0) mNil)) (tgT 2 (tgCons (tgName 2) (tgCons (tgName 3) tgNil))) lb_escaped_1)
    (sRet (mVar 1))))
def m_escaped : List D → Store → Rs D := fnK 1 4 b_escaped
theorem c_escaped (T : Tx K mg) : Cal P w K mg base 1 "escaped" ["value"] (modSp K m_escaped) := by
  refine cal_K (body := b_escaped) (nl := 4) T.d_escaped sc_escaped rfl (fun _ _ _ _ _ _ us hl => match us, hl with | [_], _ => rfl) (fun f cdv A outer s H E hr => ⟨_, (pss_cons (ps_set (i := 1) sc_escaped.nd rfl (by first | exact Or.inl rfl | exact Or.inr rfl) pe_str)
      (pss_cons (ps_for PassesOwn.never rfl (pi_enumB (K := K) (by rfl) T.b_enumerate (pa_cons (pv 0) pa_nil)) (pg_tupK (K := K) (n := 2) rfl (pgs_cons (pg_name (i := 2) sc_escaped.nd rfl (by first | exact Or.inl rfl | exact Or.inr rfl)) (pgs_cons (pg_name (i := 3) sc_escaped.nd rfl (by first | exact Or.inl rfl | exact Or.inr rfl)) pgs_nil)))
      (pss_cons (ps_set (i := 4) sc_escaped.nd rfl (by first | exact Or.inl rfl | exact Or.inr rfl) (pe_or (pe_cmpR (cm_Eq (K := K) hr.units) (pv 2) pe_int (nomark _)) (pe_one (pe_cmpR (cm_Eq (K := K) hr.units) (pv 2) (pe_op op_sub (pe_callB (call_lenA (K := K)) (by rfl) T.b_len (by decide +kernel) (pa_cons (pv 0) pa_nil)) pe_int) (nomark _)))))
      (pss_one (ps_set (i := 1) sc_escaped.nd rfl (by first | exact Or.inl rfl | exact Or.inr rfl) (pe_op (op_Add (K := K)) (pe_op (op_Add (K := K)) (pv 1) (pe_ifExp (PW.pt (pw_or (pt_cmpR (cm_InD (K := K) (hu65 hr)) (pv 3) (pe_globS (by rfl) T.g_ESCAPED) (by rfl)) (pw_or1 (PW.pt (pw_and (pt_cmpR (cm_Eq (K := K) hr.units) (pv 3) pe_str (nomark _)) (pw_and1 (pt_val (pv 4)))))))) (pe_globS (by rfl) T.g_BACKSLASH) pe_str)) (pv 3))))))
      (pss_one (ps_ret (pv 1))))), ?_⟩)
  exact (t_seq (t_asg (d_str [] (by decide +kernel)) (g_name 1))
      (t_seq (t_for (i_enumA (s_cons (d_var 0) s_nil)) (g_tup (g_cons (g_name 2) (g_cons (g_name 3) g_nil))) (t_seq (t_asg (d_orV (d_op od_eq (d_var 2) d_int) (d_op od_eq (d_var 2) (d_op od_sub (d_cb cd_len (s_cons (d_var 0) s_nil)) d_int))) (g_name 4))
      (t_asg (d_op od_add (d_op od_add (d_var 1) (d_if (b_or (b_test (d_op od_inD (d_var 3) (d_str [44, 43, 61, 92] (by decide +kernel)))) (b_and (b_test (d_op od_eq (d_var 3) (d_str [32] (by decide +kernel)))) (b_B (d_var 4)))) (d_str [92] (by decide +kernel)) (d_str [] (by decide +kernel)))) (d_var 3)) (g_name 1))))
      (t_ret (d_var 1))))
abbrev N_value_at : List Str := ["text", "begin", "found", "at"]
theorem sc_value_at : FnScope N_value_at ["text", "begin"] (defScope s_value_at) := ⟨rfl, rfl, rfl, by decide +kernel, rfl, by decide +kernel, by decide +kernel⟩
def lt_value_at_1 : Mo Bool := (mAnd (mTest (mOp dLtA (mVar 3) (mCb dLen (mCons (mVar 0) mNil)))) (mTest (mOp dNiD (mOp dIxD (mVar 0) (mVar 3)) (mC (D.str [44, 43])))))
def lb_value_at_2 : MS := (sSeq (sIf (mAnd (mTest (mOp dEq (mOp dIxD (mVar 0) (mVar 3)) (mC (D.str [92])))) (mTest (mOp dLtA (mOp dAdd (mVar 3) (mC (D.int 1))) (mCb dLen (mCons (mVar 0) mNil))))) (sAsg (mOp dAdd (mVar 3) (mC (D.int 1))) (tgName 3)) sNext)
    (sSeq (sAsg (mOp dAdd (mVar 2) (mOp dIxD (mVar 0) (mVar 3))) (tgName 2))
    (sAsg (mOp dAdd (mVar 3) (mC (D.int 1))) (tgName 3))))
def b_value_at : MS := (sSeq (sPar 2 3 (mCons (mC (D.str [])) (mCons (mVar 1) mNil)))
    (sSeq (sWhile 100000 lt_value_at_1 lb_value_at_2)
    (sRet (mTup (mCons (mIf (mTest (mOp dEq (mCall m_escaped (mCons (mVar 2) mNil)) (mSl dSlV (mVar 0) (mPart (mVar 1)) (mPart (mVar 3))))) (mVar 2) (mC D.non)) (mCons (mVar 3) mNil))))))
def m_value_at : List D → Store → Rs D := fnK 2 2 b_value_at
theorem c_value_at (T : Tx K mg) : Cal P w K mg base 2 "value_at" ["text", "begin"] (modSp K m_value_at) := by
  have C_escaped := c_escaped (P := P) (w := w) (base := base) T
  refine cal_K (body := b_value_at) (nl := 2) T.d_value_at sc_value_at rfl (fun _ _ _ _ _ _ us hl => match us, hl with | [_, _], _ => rfl) (fun f cdv A outer s H E hr => ⟨_, (pss_cons (ps_par (i := 2) (j := 3) (by rfl) sc_value_at.nd rfl rfl (by decide) rfl rfl (pa_cons pe_str (pa_cons (pv 1) pa_nil)) (by rfl))
      (pss_cons (ps_while PassesOwn.never (PW.pt (pw_and (pt_cmpR (cm_LtA (K := K) hr.units) (pv 3) (pe_callB (call_lenA (K := K)) (by rfl) T.b_len (by decide +kernel) (pa_cons (pv 0) pa_nil)) (nomark _)) (pw_and1 (pt_cmpR (cm_NotInD (K := K) (hu65 hr)) (pe_ix (ix_anyD (K := K) (hu1 hr)) (pv 0) (pv 3) (fun _ _ => rfl)) pe_str (by rfl)))))
      (pss_cons (ps_if (PW.pt (pw_and (pt_cmpR (cm_Eq (K := K) hr.units) (pe_ix (ix_anyD (K := K) (hu1 hr)) (pv 0) (pv 3) (fun _ _ => rfl)) (pe_globS (by rfl) T.g_BACKSLASH) (nomark _)) (pw_and1 (pt_cmpR (cm_LtA (K := K) hr.units) (pe_op (op_Add (K := K)) (pv 3) pe_int) (pe_callB (call_lenA (K := K)) (by rfl) T.b_len (by decide +kernel) (pa_cons (pv 0) pa_nil)) (nomark _))))) (pss_one (ps_set (i := 3) sc_value_at.nd rfl (by first | exact Or.inl rfl | exact Or.inr rfl) (pe_op (op_Add (K := K)) (pv 3) pe_int))) pss_nil)
      (pss_cons (ps_set (i := 2) sc_value_at.nd rfl (by first | exact Or.inl rfl | exact Or.inr rfl) (pe_op (op_Add (K := K)) (pv 2) (pe_ix (ix_anyD (K := K) (hu1 hr)) (pv 0) (pv 3) (fun _ _ => rfl))))
      (pss_one (ps_set (i := 3) sc_value_at.nd rfl (by first | exact Or.inl rfl | exact Or.inr rfl) (pe_op (op_Add (K := K)) (pv 3) pe_int))))))
      (pss_one (ps_ret (pe_tup (pa_cons (pe_ifExp (pt_cmpR (cm_Eq (K := K) hr.units) (pe_callC C_escaped (hr.mono (by decide)) (by rfl) (pa_cons (pv 2) pa_nil)) (pe_slice (sl_all (K := K)) (pv 0) (po_some (pv 1)) (po_some (pv 3))) (nomark _)) (pv 2) pe_non) (pa_cons (pv 3) pa_nil))))))), ?_⟩)
  exact (t_seq (t_par (s_cons (d_str [] (by decide +kernel)) (s_cons (d_var 1) s_nil)))
      (t_seq (t_while 100000 (b_and (b_test (d_op od_ltA (d_var 3) (d_cb cd_len (s_cons (d_var 0) s_nil)))) (b_test (d_op od_niD (d_op od_ixD (d_var 0) (d_var 3)) (d_str [44, 43] (by decide +kernel))))) (t_seq (t_if (b_and (b_test (d_op od_eq (d_op od_ixD (d_var 0) (d_var 3)) (d_str [92] (by decide +kernel)))) (b_test (d_op od_ltA (d_op od_add (d_var 3) d_int) (d_cb cd_len (s_cons (d_var 0) s_nil))))) (t_asg (d_op od_add (d_var 3) d_int) (g_name 3)) t_next)
      (t_seq (t_asg (d_op od_add (d_var 2) (d_op od_ixD (d_var 0) (d_var 3))) (g_name 2))
      (t_asg (d_op od_add (d_var 3) d_int) (g_name 3)))))
      (t_ret (d_tup (s_cons (d_if (b_test (d_op od_eq (d_call (s_cons (d_var 2) s_nil)) (d_sl sd_all (d_var 0) (o_some (d_var 1)) (o_some (d_var 3))))) (d_var 2) d_non) (s_cons (d_var 3) s_nil))))))
abbrev N_read_name : List Str := ["text", "leaves", "pairs", "at", "equals", "word", "pair", "value", "is_short", "leaf"]
theorem sc_read_name : FnScope N_read_name ["text"] (defScope s_read_name) := ⟨rfl, rfl, rfl, by decide +kernel, rfl, by decide +kernel, by decide +kernel⟩
def le_read_name_1 : Mo D := (mOp dIxD (mVar 6) (mC (D.int 0)))
def lt_read_name_2 : Mo Bool := (mAnd (mTest (mOp dNe (mVar 0) (mC (D.str [])))) (mTest (mOp dLe (mVar 3) (mCb dLen (mCons (mVar 0) mNil)))))
def lb_read_name_3 : MS := (sSeq (sAsg (mBm dFind (mVar 0) (mCons (mC (D.str [61])) (mCons (mVar 3) mNil))) (tgName 4))
    (sSeq (sAsg (mIf (mTest (mOp dGe (mVar 4) (mC (D.int 0)))) (mSl dSlV (mVar 0) (mPart (mVar 3)) (mPart (mVar 4))) (mC (D.str []))) (tgName 5))
    (sSeq (sIf (mOr (mNot (mTest (mCall m_is_word (mCons (mVar 5) mNil)))) (mTest (mOp dInD (mVar 5) (mFz (mLc (mIter (mVar 2)) (tgName 6) (mC true) le_read_name_1 [6]))))) (sRet (mC D.non)) sNext)
    (sSeq (sAsg (mCall m_value_at (mCons (mVar 0) (mCons (mOp dAdd (mVar 4) (mC (D.int 1))) mNil))) (tgT 2 (tgCons (tgName 7) (tgCons (tgName 3) tgNil))))
    (sSeq (sIf (mNot (mTest (mCall m_is_plain (mCons (mVar 7) mNil)))) (sRet (mC D.non)) sNext)
    (sSeq (sDrop (mApp (mVar 2) (mTup (mCons (mVar 5) (mCons (mVar 7) mNil)))))
    (sSeq (sIf (mOr (mTest (mOp dEq (mVar 3) (mCb dLen (mCons (mVar 0) mNil)))) (mTest (mOp dEq (mOp dIxD (mVar 0) (mVar 3)) (mC (D.str [44]))))) (sSeq (sDrop (mApp (mVar 1) (mCb dTuple (mCons (mVar 2) mNil))))
    (sAsg (mCell (mLst mNil)) (tgName 2))) sNext)
    (sAsg (mOp dAdd (mVar 3) (mC (D.int 1))) (tgName 3)))))))))
def le_read_name_4 : Mo D := (mOp dLe (mCb dLen (mCons (mVar 9) mNil)) (mC (D.int 4)))
def b_read_name : MS := (sSeq (sIf (mNot (mTest (mCb (dIsiC ctab) (mCons (mVar 0) (mCons (mC (D.ty "str")) mNil))))) (sRet (mC D.non)) sNext)
    (sSeq (sAsg (mCell (mLst mNil)) (tgName 1))
    (sSeq (sAsg (mCell (mLst mNil)) (tgName 2))
    (sSeq (sAsg (mC (D.int 0)) (tgName 3))
    (sSeq (sWhile 100000 lt_read_name_2 lb_read_name_3)
    (sSeq (sAsg (mAndV (mOp dLe (mCb dLen (mCons (mVar 1) mNil)) (mC (D.int 12))) (mCb dAll (mCons (mFz (mLc (mIter (mVar 1)) (tgName 9) (mC true) le_read_name_4 [9])) mNil))) (tgName 8))
    (sRet (mIf (mAnd (mTest (mVar 8)) (mTest (mOp dEq (mVar 2) (mFz (mLst mNil))))) (mCb dTuple (mCons (mVar 1) mNil)) (mC D.non)))))))))
def m_read_name : List D → Store → Rs D := fnD 1 9 b_read_name
theorem c_read_name (T : Tx K mg) : Cal P w K mg base 3 "read_name" ["text"] (modSp K m_read_name) := by
  have C_is_word := c_is_word (P := P) (w := w) (base := base) T
  have C_value_at := c_value_at (P := P) (w := w) (base := base) T
  have C_is_plain := c_is_plain (P := P) (w := w) (base := base) T
  refine cal_D (body := b_read_name) (nl := 9) T.d_read_name sc_read_name rfl (fun _ _ _ _ _ _ us hl => match us, hl with | [_], _ => rfl) (fun f cdv A outer s H E hr => ⟨_, (pss_cons (ps_if (pt_not (pt_val (pe_callB (call_isiA (K := K)) (by rfl) T.b_isinstance (by decide +kernel) (pa_cons (pv 0) (pa_cons (pe_bty (T := "str") (by rfl) T.b_str (by decide +kernel)) pa_nil))))) (pss_one (ps_ret pe_non)) pss_nil)
      (pss_cons (ps_set (i := 1) sc_read_name.nd rfl (by first | exact Or.inl rfl | exact Or.inr rfl) (pe_lst pa_nil))
      (pss_cons (ps_set (i := 2) sc_read_name.nd rfl (by first | exact Or.inl rfl | exact Or.inr rfl) (pe_lst pa_nil))
      (pss_cons (ps_set (i := 3) sc_read_name.nd rfl (by first | exact Or.inl rfl | exact Or.inr rfl) pe_int)
      (pss_cons (ps_while PassesOwn.never (PW.pt (pw_and (pt_cmpR (cm_NotEq (K := K) hr.units) (pv 0) pe_str (nomark _)) (pw_and1 (pt_cmpR cm_LtE (pv 3) (pe_callB (call_lenA (K := K)) (by rfl) T.b_len (by decide +kernel) (pa_cons (pv 0) pa_nil)) (nomark _)))))
      (pss_cons (ps_set (i := 4) sc_read_name.nd rfl (by first | exact Or.inl rfl | exact Or.inr rfl) (pe_bmK (K := K) PySem.F.plainAttrs_str PySem.F.slot_str_find PySem.F.type_str_find mt_findA (pv 0) (pa_cons pe_str (pa_cons (pv 3) pa_nil))))
      (pss_cons (ps_set (i := 5) sc_read_name.nd rfl (by first | exact Or.inl rfl | exact Or.inr rfl) (pe_ifExp (pt_cmpR cm_GtE (pv 4) pe_int (nomark _)) (pe_slice (sl_all (K := K)) (pv 0) (po_some (pv 3)) (po_some (pv 4))) pe_str))
      (pss_cons (ps_if (PW.pt (pw_or (pt_not (pt_val (pe_callC C_is_word (hr.mono (by decide)) (by rfl) (pa_cons (pv 5) pa_nil)))) (pw_or1 (pt_cmpR (cm_InD (K := K) (hu65 hr)) (pv 5) (pe_lc (own := [("pair", 6)]) (by rfl) sc_read_name.nd (pi_any (K := K) (pv 2)) (blkOk_by (own := [("pair", 6)]) (N := N_read_name) (sc := defScope s_read_name) (by decide +kernel)) (fun _ _ _ _ _ => (pg_name (i := 6) sc_read_name.nd rfl (by first | exact Or.inl rfl | exact Or.inr rfl))) (fun _ _ _ _ _ => pts_nil) (fun _ _ _ _ _ => (pe_ix (ix_anyD (K := K) (hu1 hr)) (pv 6) pe_int (fun _ _ => rfl)))) (by rfl))))) (pss_one (ps_ret pe_non)) pss_nil)
      (pss_cons (ps_asg (pe_callC C_value_at (hr.mono (by decide)) (by rfl) (pa_cons (pv 0) (pa_cons (pe_op (op_Add (K := K)) (pv 4) pe_int) pa_nil))) (pg_tupK (K := K) (n := 2) rfl (pgs_cons (pg_name (i := 7) sc_read_name.nd rfl (by first | exact Or.inl rfl | exact Or.inr rfl)) (pgs_cons (pg_name (i := 3) sc_read_name.nd rfl (by first | exact Or.inl rfl | exact Or.inr rfl)) pgs_nil))))
      (pss_cons (ps_if (pt_not (pt_val (pe_callC C_is_plain (hr.mono (by decide)) (by rfl) (pa_cons (pv 7) pa_nil)))) (pss_one (ps_ret pe_non)) pss_nil)
      (pss_cons (ps_expr (pe_bmK (K := K) PySem.F.plainAttrs_list PySem.F.slot_list_append PySem.F.type_list_append mt_append (pv 2) (pa_cons (pe_tup (pa_cons (pv 5) (pa_cons (pv 7) pa_nil))) pa_nil)))
      (pss_cons (ps_if (PW.pt (pw_or (pt_cmpR (cm_Eq (K := K) hr.units) (pv 3) (pe_callB (call_lenA (K := K)) (by rfl) T.b_len (by decide +kernel) (pa_cons (pv 0) pa_nil)) (nomark _)) (pw_or1 (pt_cmpR (cm_Eq (K := K) hr.units) (pe_ix (ix_anyD (K := K) (hu1 hr)) (pv 0) (pv 3) (fun _ _ => rfl)) pe_str (nomark _))))) (pss_cons (ps_expr (pe_bmK (K := K) PySem.F.plainAttrs_list PySem.F.slot_list_append PySem.F.type_list_append mt_append (pv 1) (pa_cons (pe_callTy (call_tupleA (K := K)) (by rfl) T.b_tuple (by decide +kernel) (pa_cons (pv 2) pa_nil)) pa_nil)))
      (pss_one (ps_set (i := 2) sc_read_name.nd rfl (by first | exact Or.inl rfl | exact Or.inr rfl) (pe_lst pa_nil)))) pss_nil)
      (pss_one (ps_set (i := 3) sc_read_name.nd rfl (by first | exact Or.inl rfl | exact Or.inr rfl) (pe_op (op_Add (K := K)) (pv 3) pe_int)))))))))))
      (pss_cons (ps_set (i := 8) sc_read_name.nd rfl (by first | exact Or.inl rfl | exact Or.inr rfl) (pe_and (pe_cmpR cm_LtE (pe_callB (call_lenA (K := K)) (by rfl) T.b_len (by decide +kernel) (pa_cons (pv 1) pa_nil)) (pe_globI (by rfl) T.g_MAX_LEAVES) (nomark _)) (pe_one (pe_callB (call_allA (K := K)) (by rfl) T.b_all (by decide +kernel) (pa_cons (pe_lc (own := [("leaf", 9)]) (by rfl) sc_read_name.nd (pi_any (K := K) (pv 1)) (blkOk_by (own := [("leaf", 9)]) (N := N_read_name) (sc := defScope s_read_name) (by decide +kernel)) (fun _ _ _ _ _ => (pg_name (i := 9) sc_read_name.nd rfl (by first | exact Or.inl rfl | exact Or.inr rfl))) (fun _ _ _ _ _ => pts_nil) (fun _ _ _ _ _ => (pe_cmpR cm_LtE (pe_callB (call_lenA (K := K)) (by rfl) T.b_len (by decide +kernel) (pa_cons (pv 9) pa_nil)) (pe_globI (by rfl) T.g_MAX_PAIRS) (nomark _)))) pa_nil)))))
      (pss_one (ps_ret (pe_ifExp (PW.pt (pw_and (pt_val (pv 8)) (pw_and1 (pt_cmpR (cm_Eq (K := K) hr.units) (pv 2) (pe_lst pa_nil) (nomark _))))) (pe_callTy (call_tupleA (K := K)) (by rfl) T.b_tuple (by decide +kernel) (pa_cons (pv 1) pa_nil)) pe_non))))))))), ?_⟩)
  exact (t_seq (t_if (b_not (b_B (d_cb (cd_isiC T.G) (s_cons (d_var 0) (s_cons d_ty s_nil))))) (t_ret d_non) t_next)
      (t_seq (t_asg (d_cell (c_lst s_nil)) (g_name 1))
      (t_seq (t_asg (d_cell (c_lst s_nil)) (g_name 2))
      (t_seq (t_asg d_int (g_name 3))
      (t_seq (t_while 100000 (b_and (b_test (d_op od_ne (d_var 0) (d_str [] (by decide +kernel)))) (b_test (d_op od_le (d_var 3) (d_cb cd_len (s_cons (d_var 0) s_nil))))) (t_seq (t_asg (d_bm md_find (d_var 0) (s_cons (d_str [61] (by decide +kernel)) (s_cons (d_var 3) s_nil))) (g_name 4))
      (t_seq (t_asg (d_if (b_test (d_op od_ge (d_var 4) d_int)) (d_sl sd_all (d_var 0) (o_some (d_var 3)) (o_some (d_var 4))) (d_str [] (by decide +kernel))) (g_name 5))
      (t_seq (t_if (b_or (b_not (b_B (d_call (s_cons (d_var 5) s_nil)))) (b_test (d_op od_inD (d_var 5) (d_fz (c_lc (vs := [6]) (i_any (d_var 2)) (g_name 6) (by decide) b_yes (d_op od_ixD (d_var 6) d_int)))))) (t_ret d_non) t_next)
      (t_seq (t_asg (d_call (s_cons (d_var 0) (s_cons (d_op od_add (d_var 4) d_int) s_nil))) (g_tup (g_cons (g_name 7) (g_cons (g_name 3) g_nil))))
      (t_seq (t_if (b_not (b_B (d_call (s_cons (d_var 7) s_nil)))) (t_ret d_non) t_next)
      (t_seq (t_drop (d_app (d_var 2) (d_tup (s_cons (d_var 5) (s_cons (d_var 7) s_nil)))))
      (t_seq (t_if (b_or (b_test (d_op od_eq (d_var 3) (d_cb cd_len (s_cons (d_var 0) s_nil)))) (b_test (d_op od_eq (d_op od_ixD (d_var 0) (d_var 3)) (d_str [44] (by decide +kernel))))) (t_seq (t_drop (d_app (d_var 1) (d_cb cd_tuple (s_cons (d_var 2) s_nil))))
      (t_asg (d_cell (c_lst s_nil)) (g_name 2))) t_next)
      (t_asg (d_op od_add (d_var 3) d_int) (g_name 3))))))))))
      (t_seq (t_asg (d_andV (d_op od_le (d_cb cd_len (s_cons (d_var 1) s_nil)) d_int) (d_cb cd_all (s_cons (d_fz (c_lc (vs := [9]) (i_any (d_var 1)) (g_name 9) (by decide) b_yes (d_op od_le (d_cb cd_len (s_cons (d_var 9) s_nil)) d_int))) s_nil))) (g_name 8))
      (t_ret (d_if (b_and (b_B (d_var 8)) (b_test (d_op od_eq (d_var 2) (d_fz (c_lst s_nil))))) (d_cb cd_tuple (s_cons (d_var 1) s_nil)) d_non))))))))
abbrev N_leaf_text : List Str := ["pairs", "word", "value"]
theorem sc_leaf_text : FnScope N_leaf_text ["pairs"] (defScope s_leaf_text) := ⟨rfl, rfl, rfl, by decide +kernel, rfl, by decide +kernel, by decide +kernel⟩
def le_leaf_text_1 : Mo D := (mOp dAdd (mOp dAdd (mVar 1) (mC (D.str [61]))) (mCall m_escaped (mCons (mVar 2) mNil)))
def b_leaf_text : MS := (sRet (mBm dJoin (mC (D.str [43])) (mCons (mFz (mLc (mIter (mVar 0)) (tgT 2 (tgCons (tgName 1) (tgCons (tgName 2) tgNil))) (mC true) le_leaf_text_1 [1, 2])) mNil)))
def m_leaf_text : List D → Store → Rs D := fnK 1 2 b_leaf_text
theorem c_leaf_text (T : Tx K mg) : Cal P w K mg base 2 "leaf_text" ["pairs"] (modSp K m_leaf_text) := by
  have C_escaped := c_escaped (P := P) (w := w) (base := base) T
  refine cal_K (body := b_leaf_text) (nl := 2) T.d_leaf_text sc_leaf_text rfl (fun _ _ _ _ _ _ us hl => match us, hl with | [_], _ => rfl) (fun f cdv A outer s H E hr => ⟨_, (pss_one (ps_ret (pe_bmK (K := K) PySem.F.plainAttrs_str PySem.F.slot_str_join PySem.F.type_str_join (mt_joinA (K := K)) pe_str (pa_cons (pe_lc (own := [("word", 1), ("value", 2)]) (by rfl) sc_leaf_text.nd (pi_any (K := K) (pv 0)) (blkOk_by (own := [("word", 1), ("value", 2)]) (N := N_leaf_text) (sc := defScope s_leaf_text) (by decide +kernel)) (fun _ _ _ _ _ => (pg_tupK (K := K) (n := 2) rfl (pgs_cons (pg_name (i := 1) sc_leaf_text.nd rfl (by first | exact Or.inl rfl | exact Or.inr rfl)) (pgs_cons (pg_name (i := 2) sc_leaf_text.nd rfl (by first | exact Or.inl rfl | exact Or.inr rfl)) pgs_nil)))) (fun _ _ _ _ _ => pts_nil) (fun _ _ _ _ _ => (pe_op (op_Add (K := K)) (pe_op (op_Add (K := K)) (pv 1) pe_str) (pe_callC C_escaped (hr.mono (by decide)) (by rfl) (pa_cons (pv 2) pa_nil))))) pa_nil)))), ?_⟩)
  exact (t_ret (d_bm md_join (d_str [43] (by decide +kernel)) (s_cons (d_fz (c_lc (vs := [1, 2]) (i_any (d_var 0)) (g_tup (g_cons (g_name 1) (g_cons (g_name 2) g_nil))) (by decide) b_yes (d_op od_add (d_op od_add (d_var 1) (d_str [61] (by decide +kernel))) (d_call (s_cons (d_var 2) s_nil))))) s_nil)))
abbrev N_normal_leaf : List Str := ["pairs", "word", "value"]
theorem sc_normal_leaf : FnScope N_normal_leaf ["pairs"] (defScope s_normal_leaf) := ⟨rfl, rfl, rfl, by decide +kernel, rfl, by decide +kernel, by decide +kernel⟩
def le_normal_leaf_1 : Mo D := (mTup (mCons (mVar 1) (mCons (mCall m_plain_text (mCons (mVar 2) mNil)) mNil)))
def b_normal_leaf : MS := (sRet (mCall m_leaf_text (mCons (mFz (mCc lSortedU (mCons (mFz (mLc (mIter (mVar 0)) (tgT 2 (tgCons (tgName 1) (tgCons (tgName 2) tgNil))) (mC true) le_normal_leaf_1 [1, 2])) mNil))) mNil)))
def m_normal_leaf : List D → Store → Rs D := fnK 1 2 b_normal_leaf
theorem c_normal_leaf (T : Tx K mg) : Cal P w K mg base 3 "normal_leaf" ["pairs"] (modSp K m_normal_leaf) := by
  have C_leaf_text := c_leaf_text (P := P) (w := w) (base := base) T
  have C_plain_text := c_plain_text (P := P) (w := w) (base := base) T
  refine cal_K (body := b_normal_leaf) (nl := 2) T.d_normal_leaf sc_normal_leaf rfl (fun _ _ _ _ _ _ us hl => match us, hl with | [_], _ => rfl) (fun f cdv A outer s H E hr => ⟨_, (pss_one (ps_ret (pe_callC C_leaf_text (hr.mono (by decide)) (by rfl) (pa_cons (pe_callB (call_sortedU (K := K) (by rfl)) (by rfl) T.b_sorted (by decide +kernel) (pa_cons (pe_lc (own := [("word", 1), ("value", 2)]) (by rfl) sc_normal_leaf.nd (pi_any (K := K) (pv 0)) (blkOk_by (own := [("word", 1), ("value", 2)]) (N := N_normal_leaf) (sc := defScope s_normal_leaf) (by decide +kernel)) (fun _ _ _ _ _ => (pg_tupK (K := K) (n := 2) rfl (pgs_cons (pg_name (i := 1) sc_normal_leaf.nd rfl (by first | exact Or.inl rfl | exact Or.inr rfl)) (pgs_cons (pg_name (i := 2) sc_normal_leaf.nd rfl (by first | exact Or.inl rfl | exact Or.inr rfl)) pgs_nil)))) (fun _ _ _ _ _ => pts_nil) (fun _ _ _ _ _ => (pe_tup (pa_cons (pv 1) (pa_cons (pe_callC C_plain_text (hr.mono (by decide)) (by rfl) (pa_cons (pv 2) pa_nil)) pa_nil))))) pa_nil)) pa_nil)))), ?_⟩)
  exact (t_ret (d_call (s_cons (d_fz (c_cb cc_sortedU (s_cons (d_fz (c_lc (vs := [1, 2]) (i_any (d_var 0)) (g_tup (g_cons (g_name 1) (g_cons (g_name 2) g_nil))) (by decide) b_yes (d_tup (s_cons (d_var 1) (s_cons (d_call (s_cons (d_var 2) s_nil)) s_nil))))) s_nil))) s_nil)))
abbrev N_order_of : List Str := ["leaves", "pairs"]
theorem sc_order_of : FnScope N_order_of ["leaves"] (defScope s_order_of) := ⟨rfl, rfl, rfl, by decide +kernel, rfl, by decide +kernel, by decide +kernel⟩
def le_order_of_1 : Mo D := (mCall m_normal_leaf (mCons (mVar 1) mNil))
def b_order_of : MS := (sRet (mCb dTuple (mCons (mFz (mLc (mIter (mRev (mVar 0))) (tgName 1) (mC true) le_order_of_1 [1])) mNil)))
def m_order_of : List D → Store → Rs D := fnK 1 1 b_order_of
theorem c_order_of (T : Tx K mg) : Cal P w K mg base 4 "order_of" ["leaves"] (modSp K m_order_of) := by
  have C_normal_leaf := c_normal_leaf (P := P) (w := w) (base := base) T
  refine cal_K (body := b_order_of) (nl := 1) T.d_order_of sc_order_of rfl (fun _ _ _ _ _ _ us hl => match us, hl with | [_], _ => rfl) (fun f cdv A outer s H E hr => ⟨_, (pss_one (ps_ret (pe_callTy (call_tupleA (K := K)) (by rfl) T.b_tuple (by decide +kernel) (pa_cons (pe_lc (own := [("pairs", 1)]) (by rfl) sc_order_of.nd (pi_any (K := K) (pe_rev (K := K) (pv 0))) (blkOk_by (own := [("pairs", 1)]) (N := N_order_of) (sc := defScope s_order_of) (by decide +kernel)) (fun _ _ _ _ _ => (pg_name (i := 1) sc_order_of.nd rfl (by first | exact Or.inl rfl | exact Or.inr rfl))) (fun _ _ _ _ _ => pts_nil) (fun _ _ _ _ _ => (pe_callC C_normal_leaf (hr.mono (by decide)) (by rfl) (pa_cons (pv 1) pa_nil)))) pa_nil)))), ?_⟩)
  exact (t_ret (d_cb cd_tuple (s_cons (d_fz (c_lc (vs := [1]) (i_any (d_rev (d_var 0))) (g_name 1) (by decide) b_yes (d_call (s_cons (d_var 1) s_nil)))) s_nil)))
end
end My
namespace My
open PySem PySem.Spec PyProof.Rows L2
section
variable {P : Program} [hP : OkP fileS P] {w : World} {K : PySem.W.Frag} {mg : Str → Option Value} {base : Heap}
abbrev N_Name___init : List Str := ["self", "text", "leaves"]
theorem sc_Name___init : FnScope N_Name___init ["self", "text"] (defScope s_Name___init) := ⟨rfl, rfl, rfl, by decide +kernel, rfl, by decide +kernel, by decide +kernel⟩
def b_Name___init : MS := (sSeq (sAsg (mCall m_read_name (mCons (mVar 1) mNil)) (tgName 2))
    (sSeq (sIf (mTest (mOp dIs (mVar 2) (mC D.non))) (sRaise "BadName" ["given"] (mCons (mVar 1) mNil)) sNext)
    (sSeq (sSetF ctab "own_text" (mVar 1) (mVar 0))
    (sSeq (sSetF ctab "own_leaves" (mVar 2) (mVar 0))
    (sSetF ctab "own_order" (mCall m_order_of (mCons (mVar 2) mNil)) (mVar 0))))))
def m_Name___init : List D → Store → Rs D := fnKX 2 1 b_Name___init
theorem c_Name___init (T : Tx K mg) : CalF P w K mg base (L2.CX P w) 5 (He.ma K (He.ga K "Name") "__init__") "__init__" "Name.__init__" s_Name___init [V.str ""] [] ["self", "text"] (modSpX K m_Name___init) := by
  have C_read_name := c_read_name (P := P) (w := w) (base := base) T
  have C_order_of := c_order_of (P := P) (w := w) (base := base) T
  refine calF_KX (body := b_Name___init) (nl := 1) T.d_Name___init sc_Name___init rfl (fun cdv A outer s H E hr => ⟨_, (pss_cons (ps_set (i := 2) sc_Name___init.nd rfl (by first | exact Or.inl rfl | exact Or.inr rfl) (pe_callC C_read_name (hr.mono (by decide)) (by rfl) (pa_cons (pv 1) pa_nil)))
      (pss_cons (ps_if (pt_cmpR cm_Is (pv 2) pe_non (nomark _)) (pss_one (L2.ps_raise rfl (L2.takes_of rfl rfl rfl rfl) (pmk_err hP T.er_BadName T.k_BadName T.b_super hr (by decide) (pa_cons (pv 1) pa_nil) (by rfl)))) pss_nil)
      (pss_cons (ps_fld (pv 0) (pv 1) (by rfl))
      (pss_cons (ps_fld (pv 0) (pv 2) (by rfl))
      (pss_one (ps_fld (pv 0) (pe_callC C_order_of (hr.mono (by decide)) (by rfl) (pa_cons (pv 2) pa_nil)) (by rfl))))))), ?_⟩)
  exact (t_seq (t_asg (d_call (s_cons (d_var 1) s_nil)) (g_name 2))
      (t_seq (t_if (b_test (d_op od_is (d_var 2) d_non)) (t_raise (s_cons (d_var 1) s_nil)) t_next)
      (t_seq (t_setF T.G (d_var 1) (d_var 0))
      (t_seq (t_setF T.G (d_var 2) (d_var 0))
      (t_setF T.G (d_call (s_cons (d_var 2) s_nil)) (d_var 0))))))
abbrev N_Name_text : List Str := ["self"]
theorem sc_Name_text : FnScope N_Name_text ["self"] (defScope s_Name_text) := ⟨rfl, rfl, rfl, by decide +kernel, rfl, by decide +kernel, by decide +kernel⟩
def b_Name_text : MS := (sRet (mFld ctab "own_text" (mVar 0)))
def m_Name_text : List D → Store → Rs D := fnK 1 0 b_Name_text
theorem c_Name_text (T : Tx K mg) : CalF P w K mg base CX0 1 (gp K "Name" "text") "text" "Name.text" s_Name_text [] [] ["self"] (modSp K m_Name_text) := by
  refine calF_K (body := b_Name_text) (nl := 0) T.d_Name_text sc_Name_text rfl (fun cdv A outer s H E hr => ⟨_, (pss_one (ps_ret (pe_fldK (K := K) (pv 0)))), ?_⟩)
  exact (t_ret (d_fld T.G (d_var 0)))
abbrev N_Name___eq : List Str := ["self", "other"]
theorem sc_Name___eq : FnScope N_Name___eq ["self", "other"] (defScope s_Name___eq) := ⟨rfl, rfl, rfl, by decide +kernel, rfl, by decide +kernel, by decide +kernel⟩
def b_Name___eq : MS := (sRet (mAndV (mCb (dIsiC ctab) (mCons (mVar 1) (mCons (mC (D.cls "Name")) mNil))) (mOp dEq (mFld ctab "own_order" (mVar 0)) (mFld ctab "own_order" (mVar 1)))))
def m_Name___eq : List D → Store → Rs D := fnK 2 0 b_Name___eq
theorem c_Name___eq (T : Tx K mg) : CalF P w K mg base CX0 1 (He.ma K (He.ga K "Name") "__eq__") "__eq__" "Name.__eq__" s_Name___eq [] [] ["self", "other"] (modSp K m_Name___eq) := by
  refine calF_K (body := b_Name___eq) (nl := 0) T.d_Name___eq sc_Name___eq rfl (fun cdv A outer s H E hr => ⟨_, (pss_one (ps_ret (pe_and (pe_callB (call_isiA (K := K)) (by rfl) T.b_isinstance (by decide +kernel) (pa_cons (pv 1) (pa_cons (pe_globR (by rfl) T.k_Name) pa_nil))) (pe_one (pe_cmpR (cm_Eq (K := K) hr.units) (pe_fldK (K := K) (pv 0)) (pe_fldK (K := K) (pv 1)) (nomark _)))))), ?_⟩)
  exact (t_ret (d_andV (d_cb (cd_isiC T.G) (s_cons (d_var 1) (s_cons d_cls s_nil))) (d_op od_eq (d_fld T.G (d_var 0)) (d_fld T.G (d_var 1)))))
abbrev N_need_name : List Str := ["value"]
theorem sc_need_name : FnScope N_need_name ["value"] (defScope s_need_name) := ⟨rfl, rfl, rfl, by decide +kernel, rfl, by decide +kernel, by decide +kernel⟩
def b_need_name : MS := (sSeq (sIf (mTest (mCb (dIsiC ctab) (mCons (mVar 0) (mCons (mC (D.cls "Name")) mNil)))) (sRet (mVar 0)) sNext)
    (sRetX (mMakeX false "Name" m_Name___init 1 0 [0, 1] [D.str []] (mC (D.cls "Name")) (mCons (mVar 0) mNil) mNil)))
def m_need_name : List D → Store → Rs D := fnKX 1 0 b_need_name
theorem c_need_name (T : Tx K mg) : CalX P w K mg base 7 "need_name" ["value"] (modSpX K m_need_name) := by
  have C_Name___init := c_Name___init (P := P) (w := w) (base := base) T
  refine cal_KX (body := b_need_name) (nl := 0) T.d_need_name sc_need_name rfl (fun _ _ _ _ _ _ us hl => match us, hl with | [_], _ => rfl) (fun f cdv A outer s H E hr => ⟨_, (pss_cons (ps_if (pt_val (pe_callB (call_isiA (K := K)) (by rfl) T.b_isinstance (by decide +kernel) (pa_cons (pv 0) (pa_cons (pe_globR (by rfl) T.k_Name) pa_nil)))) (pss_one (ps_ret (pv 0))) pss_nil)
      (pss_one (ps_ret (pe_makeP (E := WE (fun cls d _ H => E cls d H)) T.mk_Name C_Name___init (hr.mono (by decide)) (bs_D (n := 2) (ks := []) (js := [0, 1]) (fun z => nomatch z) (fun T _ _ _ _ _ _ us its ws h1 h2 h3 => match us, its, ws, h1, h2, h3 with | [_, _], [_], [], _, _, _ => ⟨_, rfl, rfl⟩)) (fun σ => L2.passAt (L2.takes_of rfl rfl rfl rfl) σ) (pe_globR (by rfl) T.k_Name) (pa_cons (pv 0) pa_nil) pk_nil)))), ?_⟩)
  exact (t_seq (t_if (b_B (d_cb (cd_isiC T.G) (s_cons (d_var 0) (s_cons d_cls s_nil)))) (t_ret (d_var 0)) t_next)
      (t_retX (x_makeX (fun A M H => show RepL K A M H [V.str ""] [D.str []] from ⟨_, _, rfl, congrArg V.str (by decide +kernel), rfl⟩) d_cls (s_cons (d_var 0) s_nil) s_nil)))
abbrev N_need_table : List Str := ["attributes", "word", "values", "value"]
theorem sc_need_table : FnScope N_need_table ["attributes"] (defScope s_need_table) := ⟨rfl, rfl, rfl, by decide +kernel, rfl, by decide +kernel, by decide +kernel⟩
def le_need_table_1 : Mo D := (mCall m_is_value (mCons (mVar 3) mNil))
def lb_need_table_2 : MS := (sIf (mOr (mNot (mTest (mCall m_is_word (mCons (mVar 1) mNil)))) (mOr (mNot (mTest (mCb (dIsiC ctab) (mCons (mVar 2) (mCons (mC (D.ty "tuple")) mNil))))) (mNot (mTest (mCb dAll (mCons (mFz (mLc (mIter (mVar 2)) (tgName 3) (mC true) le_need_table_1 [3])) mNil)))))) (sRaise "BadEntry" ["given"] (mCons (mVar 1) mNil)) sNext)
def le_need_table_3 : Mo D := (mVar 1)
def le_need_table_4 : Mo D := (mOp dIxD (mVar 0) (mVar 1))
def b_need_table : MS := (sSeq (sIf (mNot (mTest (mCb (dIsiC ctab) (mCons (mVar 0) (mCons (mC (D.ty "dict")) mNil))))) (sRaise "BadEntry" ["given"] (mCons (mVar 0) mNil)) sNext)
    (sSeq (sForIX (mVar 0) (tgT 2 (tgCons (tgName 1) (tgCons (tgName 2) tgNil))) lb_need_table_2)
    (sRet (mFzD (mDc (mIter (mFz (mCc lSortedU (mCons (mVar 0) mNil)))) (tgName 1) (mTest (mOp dNe (mOp dIxD (mVar 0) (mVar 1)) (mTup mNil))) le_need_table_3 le_need_table_4 [1])))))
def m_need_table : List D → Store → Rs D := fnKX 1 3 b_need_table
theorem c_need_table (T : Tx K mg) : CalX P w K mg base 2 "need_table" ["attributes"] (modSpX K m_need_table) := by
  have C_is_value := c_is_value (P := P) (w := w) (base := base) T
  have C_is_word := c_is_word (P := P) (w := w) (base := base) T
  refine cal_KX (body := b_need_table) (nl := 3) T.d_need_table sc_need_table rfl (fun _ _ _ _ _ _ us hl => match us, hl with | [_], _ => rfl) (fun f cdv A outer s H E hr => ⟨_, (pss_cons (ps_if (pt_not (pt_val (pe_callB (call_isiA (K := K)) (by rfl) T.b_isinstance (by decide +kernel) (pa_cons (pv 0) (pa_cons (pe_bty (T := "dict") (by rfl) T.b_dict (by decide +kernel)) pa_nil))))) (pss_one (L2.ps_raise rfl (L2.takes_of rfl rfl rfl rfl) (pmk_err hP T.er_BadEntry T.k_BadEntry T.b_super hr (by decide) (pa_cons (pv 0) pa_nil) (by rfl)))) pss_nil)
      (pss_cons (ps_lkX (ps_for (L2.passes_of rfl) rfl (pi_items (pv 0)) (pg_tupK (K := K) (n := 2) rfl (pgs_cons (pg_name (i := 1) sc_need_table.nd rfl (by first | exact Or.inl rfl | exact Or.inr rfl)) (pgs_cons (pg_name (i := 2) sc_need_table.nd rfl (by first | exact Or.inl rfl | exact Or.inr rfl)) pgs_nil)))
      (pss_one (ps_if (PW.pt (pw_or (pt_not (pt_val (pe_callC C_is_word (hr.mono (by decide)) (by rfl) (pa_cons (pv 1) pa_nil)))) (pw_or (pt_not (pt_val (pe_callB (call_isiA (K := K)) (by rfl) T.b_isinstance (by decide +kernel) (pa_cons (pv 2) (pa_cons (pe_bty (T := "tuple") (by rfl) T.b_tuple (by decide +kernel)) pa_nil))))) (pw_or1 (pt_not (pt_val (pe_callB (call_allA (K := K)) (by rfl) T.b_all (by decide +kernel) (pa_cons (pe_lc (own := [("value", 3)]) (by rfl) sc_need_table.nd (pi_any (K := K) (pv 2)) (blkOk_by (own := [("value", 3)]) (N := N_need_table) (sc := defScope s_need_table) (by decide +kernel)) (fun _ _ _ _ _ => (pg_name (i := 3) sc_need_table.nd rfl (by first | exact Or.inl rfl | exact Or.inr rfl))) (fun _ _ _ _ _ => pts_nil) (fun _ _ _ _ _ => (pe_callC C_is_value (hr.mono (by decide)) (by rfl) (pa_cons (pv 3) pa_nil)))) pa_nil)))))))) (pss_one (L2.ps_raise rfl (takes_lock (L2.takes_of rfl rfl rfl rfl)) (pmk_err hP T.er_BadEntry T.k_BadEntry T.b_super hr (by decide) (pa_cons (pv 1) pa_nil) (by rfl)))) pss_nil))))
      (pss_one (ps_ret (pe_dc (own := [("word", 1)]) (by rfl) sc_need_table.nd (pi_any (K := K) (pe_callB (call_sortedU (K := K) (by rfl)) (by rfl) T.b_sorted (by decide +kernel) (pa_cons (pv 0) pa_nil))) (blkOk_by (own := [("word", 1)]) (N := N_need_table) (sc := defScope s_need_table) (by decide +kernel)) (fun _ _ _ _ _ => (pg_name (i := 1) sc_need_table.nd rfl (by first | exact Or.inl rfl | exact Or.inr rfl))) (fun _ _ _ _ _ => (pts_one (pt_cmpR (cm_NotEq (K := K) hr.units) (pe_ix (ix_anyD (K := K) (hu1 hr)) (pv 0) (pv 1) (fun _ _ => rfl)) (pe_tup pa_nil) (nomark _)))) (fun _ _ _ _ _ => (pv 1)) (fun _ _ _ _ _ => (pe_ix (ix_anyD (K := K) (hu1 hr)) (pv 0) (pv 1) (fun _ _ => rfl)))))))), ?_⟩)
  exact (t_seq (t_if (b_not (b_B (d_cb (cd_isiC T.G) (s_cons (d_var 0) (s_cons d_ty s_nil))))) (t_raise (s_cons (d_var 0) s_nil)) t_next)
      (t_seq (t_forIX (v_var 0) (g_tup (g_cons (g_name 1) (g_cons (g_name 2) g_nil))) (t_if (b_or (b_not (b_B (d_call (s_cons (d_var 1) s_nil)))) (b_or (b_not (b_B (d_cb (cd_isiC T.G) (s_cons (d_var 2) (s_cons d_ty s_nil))))) (b_not (b_B (d_cb cd_all (s_cons (d_fz (c_lc (vs := [3]) (i_any (d_var 2)) (g_name 3) (by decide) b_yes (d_call (s_cons (d_var 3) s_nil)))) s_nil)))))) (t_raise (s_cons (d_var 1) s_nil)) t_next))
      (t_ret (d_fzD (k_dc (vs := [1]) (i_any (d_fz (c_cb cc_sortedU (s_cons (d_var 0) s_nil)))) (g_name 1) (by decide) (b_test (d_op od_ne (d_op od_ixD (d_var 0) (d_var 1)) (d_tup s_nil))) (d_var 1) (d_op od_ixD (d_var 0) (d_var 1)))))))
end
end My
namespace My
open PySem PySem.Spec PyProof.Rows L2
section
variable {K : PySem.W.Frag} {A : List Addr} {M : Addr → Prop} {H : Hp}
def rListDk : List V → Hp → VK → Prop := fun xs H Q => ∃ (a : Addr) (kvs : List (Key × V)), xs = [.ref a] ∧ Rd H a (.dK kvs) ∧ ∀ p, H p = none → Q (.ref p) (upd H p (.lst (kvs.map fun kv => kV kv.1)))
def rListW (K : PySem.W.Frag) : List V → Hp → VK → Prop := fun xs H Q => rListU K xs H Q ∨ rListDk xs H Q
theorem call_listW {X : Cx} {K : PySem.W.Frag} (hc : X.calm = true) (hK : X.K = K := by rfl) : CallR X (.type "list") (rListW K) := hK ▸ (call_listA (X := X)).or (call_listD hc)
def lListD (μ : Store) (ds : List D) : Option (List D) := match ds with
  | [x] => match dkD μ x with
    | some r => (match namesOf r.1 with
      | some ns => some (ns.map D.str)
      | none => none)
    | none => lList μ ds
  | _ => lList μ ds
theorem cc_listD : CcD K (rListW K) lListD := fun A M μ H vs ds es ok r e Q f => by
  unfold lListD at e
  split at e
  · rename_i x
    split at e
    · rename_i q hq
      split at e
      · rename_i ns hns
        cases e
        obtain ⟨v, r', rfl, h1, rfl⟩ := r
        obtain ⟨p, vs, rfl, hp, hlen, rr⟩ := dkD_rep ok h1 hq hns
        refine .inr ⟨p, _, rfl, hp, fun p2 hp2 => ?_⟩
        have e1 : ((ns.map fun w => (Sum.inr (SX.S w) : Key)).zip vs).map (fun kv => kV kv.1) = ns.map sv := by
          rw [show (fun kv : Key × V => kV kv.1) = kV ∘ Prod.fst from rfl, ← List.map_map, List.map_fst_zip (by rw [List.length_map, hlen]; exact Nat.le_refl _), List.map_map]
          rfl
        have e2 := f p2 _ hp2 (repL_strs ns)
        rw [← e1] at e2
        exact e2
      · cases e
    · exact .inl (cc_list A M μ H vs _ es ok r e Q f)
  · exact .inl (cc_list A M μ H vs _ es ok r e Q f)
end
end My
namespace My
open PySem PySem.Spec PyProof.Rows L2
section
variable {K : PySem.W.Frag}
def mRevI (m : Mo (List D)) : Mo (List D × Gd) := fun env μ => (m env μ).bind fun ds μ1 => match ds with
  | [.lst xs] => .ok (xs.reverse, none) μ1
  | _ => .no
theorem pi_revK {X : Cx} {tg : Expr} {e : Expr} {ta : TA} {p pos : Pos} {K : PySem.W.Frag} (hg : Gl X "reversed") (hm : X.mg "reversed" = none) (ha : PA X [e] ta) (hs : starEach [e] X.env = [(false, eval e X.env)] := by rfl) (hK : X.K = K := by rfl) : PI X tg (.Call (.Name "reversed" p) [e] [] pos) (iRev K ta) := hK ▸ pi_reversed hg hm ha hs
theorem i_rev {tas : TA} {mas : Mo (List D)} (h : EvS K tas mas) : ItD K (iRev K tas) (mRevI mas) := fun A M μ H σ env items gd μ' ok en e R f => by
  obtain ⟨ds, μ1, e1, e2⟩ := Rs.bind_ok e
  split at e2
  · rename_i xs
    cases e2
    refine h A M μ H σ env _ _ ok en e1 _ fun vs H1 A1 f1 ok1 r => ?_
    obtain ⟨v, r', rfl, h1, rfl⟩ := r
    obtain ⟨p, us, rfl, hp, rp⟩ := h1
    have carry : ∀ {A' : List Addr} {M' : Addr → Prop} {H' : Hp}, (∀ a, M' a → M a ∨ H1 a = none) → Fut A1 H1 A' H' → Go A1 M H1 A' M' H' := fun {A' M' H'} hm fu => ⟨(fu.go (M := M)).ix, fun a z => by
      rcases z with z | z
      · exact (fu.go (M := M)).new a (.inl z)
      · exact (hm a z).imp .inr id, (fu.go (M := M)).pr⟩
    have hl : us.length = xs.length := rp.len
    refine ⟨p, us, rfl, hp.sq, f _ H1 A1 f1 ok1 ⟨fun i A' M' μ' H' hm fu ok _ hi => ?_, fun i A' M' μ' H' x H'' d hm fu ok _ hi hy => ?_, fun A' M' μ' H' hm fu ok _ => ?_⟩⟩
    · rw [List.length_reverse] at hi
      exact ⟨by omega, us, _, (show SqM K (AM A' M') H' p us from hp.sqm.imp (carry hm fu).rd id).sq, List.getElem?_eq_getElem (by omega)⟩
    · obtain ⟨rfl, hx⟩ := hy
      have hil : i < xs.length := by
        have := (List.getElem?_eq_some_iff.mp hi).1
        rw [List.length_reverse] at this
        exact this
      rw [List.getElem?_reverse hil] at hi
      refine ⟨Evl.Ex.refl _, ?_⟩
      obtain ⟨u, hu, ru⟩ := (RepL.go (carry hm fu) rp).get hi
      have hy2 := hx us (show SqM K (AM A' M') H'' p us from hp.sqm.imp (carry hm fu).rd id).sq
      rw [hl, hu] at hy2
      cases hy2
      exact ru
    · show us.length ≤ xs.reverse.length
      rw [List.length_reverse, hl]
      exact Nat.le_refl _
  · cases e2
end
end My
namespace My
open PySem PySem.Spec PyProof.Rows L2
section
variable {P : Program} [hP : OkP fileS P] {w : World} {K : PySem.W.Frag} {mg : Str → Option Value} {base : Heap}
abbrev N_Entry___init : List Str := ["self", "entry_name", "attributes", "word"]
theorem sc_Entry___init : FnScope N_Entry___init ["self", "entry_name", "attributes"] (defScope s_Entry___init) := ⟨rfl, rfl, rfl, by decide +kernel, rfl, by decide +kernel, by decide +kernel⟩
def le_Entry___init_1 : Mo D := (mTup (mCons (mVar 3) (mCons (mOp dIxD (mFld ctab "own_table" (mVar 0)) (mVar 3)) mNil)))
def b_Entry___init : MS := (sSeq (sSetF ctab "own_name" (mCall m_need_name (mCons (mVar 1) mNil)) (mVar 0))
    (sSeq (sSetF ctab "own_table" (mCall m_need_table (mCons (mVar 2) mNil)) (mVar 0))
    (sSetF ctab "own_key" (mTup (mCons (mPropP ctab ["Name"] m_Name_text (mFld ctab "own_name" (mVar 0))) (mCons (mCb dTuple (mCons (mFz (mLc (mKeys (mFld ctab "own_table" (mVar 0))) (tgName 3) (mC true) le_Entry___init_1 [3])) mNil)) mNil))) (mVar 0))))
def m_Entry___init : List D → Store → Rs D := fnDX 3 1 b_Entry___init
theorem c_Entry___init (T : Tx K mg) : FnRK P w K mg base (L2.CX P w) 8 (He.ma K (He.ga K "Entry") "__init__") 2 ["self", "entry_name"] (modSpX K m_Entry___init) := by
  have C_need_name := c_need_name (P := P) (w := w) (base := base) T
  have C_need_table := c_need_table (P := P) (w := w) (base := base) T
  have C_Name_text := c_Name_text (P := P) (w := w) (base := base) T
  refine calKw_DX (ps := ["self", "entry_name"]) (pd := "attributes") (body := b_Entry___init) (nl := 1) T.d_Entry___init sc_Entry___init rfl rfl rfl rfl rfl rfl rfl (by decide) (fun cdv A outer s H E hr => ⟨_, (pss_cons (ps_fld (pv 0) (pe_callX (E := WE (fun cls d _ H => E cls d H)) C_need_name (hr.mono (by decide)) (by rfl) (fun σ => L2.passAt (L2.takes_of rfl rfl rfl rfl) σ) (pa_cons (pv 1) pa_nil)) (by rfl))
      (pss_cons (ps_fld (pv 0) (pe_callX (E := WE (fun cls d _ H => E cls d H)) C_need_table (hr.mono (by decide)) (by rfl) (fun σ => L2.passAt (L2.takes_of rfl rfl rfl rfl) σ) (pa_cons (pv 2) pa_nil)) (by rfl))
      (pss_one (ps_fld (pv 0) (pe_tup (pa_cons (pe_propP (K := K) (E := fun _ => E0) (pe_fldK (K := K) (pv 0)) C_Name_text (hr.mono (by decide)) (bs_0 (n := 1) (ks := []) (js := [0]) (fun _ _ _ _ _ _ us ws h1 h2 => match us, ws, h1, h2 with | [_], [], _, _ => rfl))) (pa_cons (pe_callTy (call_tupleA (K := K)) (by rfl) T.b_tuple (by decide +kernel) (pa_cons (pe_lkE (pe_lc (own := [("word", 3)]) (by rfl) sc_Entry___init.nd (pi_keys (pe_fldK (K := K) (pv 0))) (blkOk_by (own := [("word", 3)]) (N := N_Entry___init) (sc := defScope s_Entry___init) (by decide +kernel)) (fun _ _ _ _ _ => (pg_name (i := 3) sc_Entry___init.nd rfl (by first | exact Or.inl rfl | exact Or.inr rfl))) (fun _ _ _ _ _ => pts_nil) (fun _ _ _ _ _ => (pe_tup (pa_cons (pv 3) (pa_cons (pe_ix (ix_anyD (K := K) (hu1 hr)) (pe_fldK (K := K) (pv 0)) (pv 3) (fun _ _ => rfl)) pa_nil)))))) pa_nil)) pa_nil))) (by rfl))))), ?_⟩)
  exact (t_seq (t_setF T.G (d_callX (s_cons (d_var 1) s_nil)) (d_var 0))
      (t_seq (t_setF T.G (d_callX (s_cons (d_var 2) s_nil)) (d_var 0))
      (t_setF T.G (d_tup (s_cons (d_propP T.G T.p_Name_text (d_fld T.G (d_var 0))) (s_cons (d_cb cd_tuple (s_cons (d_fz (c_lcKeys (vs := [3]) (v_fld T.G (v_var 0)) (g_name 3) (by decide) b_yes (d_tup (s_cons (d_var 3) (s_cons (d_op od_ixD (d_fld T.G (d_var 0)) (d_var 3)) s_nil))))) s_nil)) s_nil))) (d_var 0))))
abbrev N_Entry_of : List Str := ["cls", "entry_name", "attributes", "name", "table"]
theorem sc_Entry_of : FnScope N_Entry_of ["cls", "entry_name", "attributes"] (defScope s_Entry_of) := ⟨rfl, rfl, rfl, by decide +kernel, rfl, by decide +kernel, by decide +kernel⟩
def b_Entry_of : MS := (sSeq (sAsgX (mCallX m_need_name (mCons (mVar 1) mNil)) (tgName 3))
    (sSeq (sAsgX (mCallX m_need_table (mCons (mVar 2) mNil)) (tgName 4))
    (sRetX (mMakeA false "Entry" m_Entry___init (mVar 0) (mKw 2 ["self", "entry_name"] (mNrG (mCons (mVar 3) mNil)) (mVar 4))))))
def m_Entry_of : List D → Store → Rs D := fnKX 3 2 b_Entry_of
theorem c_Entry_of (T : Tx K mg) : CalF P w K mg base (L2.CX P w) 10 (gc K "Entry" "of") "of" "Entry.of" s_Entry_of [] [] ["cls", "entry_name", "attributes"] (modSpX K m_Entry_of) := by
  have C_need_name := c_need_name (P := P) (w := w) (base := base) T
  have C_need_table := c_need_table (P := P) (w := w) (base := base) T
  have C_Entry___init := c_Entry___init (P := P) (w := w) (base := base) T
  refine calF_KX (body := b_Entry_of) (nl := 2) T.d_Entry_of sc_Entry_of rfl (fun cdv A outer s H E hr => ⟨_, (pss_cons (ps_set (i := 3) sc_Entry_of.nd rfl (by first | exact Or.inl rfl | exact Or.inr rfl) (pe_callX (E := WE (fun cls d _ H => E cls d H)) C_need_name (hr.mono (by decide)) (by rfl) (fun σ => L2.passAt (L2.takes_of rfl rfl rfl rfl) σ) (pa_cons (pv 1) pa_nil)))
      (pss_cons (ps_set (i := 4) sc_Entry_of.nd rfl (by first | exact Or.inl rfl | exact Or.inr rfl) (pe_callX (E := WE (fun cls d _ H => E cls d H)) C_need_table (hr.mono (by decide)) (by rfl) (fun σ => L2.passAt (L2.takes_of rfl rfl rfl rfl) σ) (pa_cons (pv 2) pa_nil)))
      (pss_one (ps_ret (pe_makeKw (E := WE (fun cls d _ H => E cls d H)) T.mk_Entry C_Entry___init (hr.mono (by decide)) (fun σ => L2.passAt (L2.takes_of rfl rfl rfl rfl) σ) (pv 0) (pa_cons (pv 3) pa_nil) (pv 4)))))), ?_⟩)
  exact (t_seq (t_asgX (x_callX (s_cons (d_var 1) s_nil)) (g_name 3))
      (t_seq (t_asgX (x_callX (s_cons (d_var 2) s_nil)) (g_name 4))
      (t_retX (x_makeA (fun _ _ _ _ h => h) (d_var 0) (xs_kw (xs_nr (s_cons (d_var 3) s_nil)) (d_var 4))))))
abbrev N_Entry_name : List Str := ["self"]
theorem sc_Entry_name : FnScope N_Entry_name ["self"] (defScope s_Entry_name) := ⟨rfl, rfl, rfl, by decide +kernel, rfl, by decide +kernel, by decide +kernel⟩
def b_Entry_name : MS := (sRet (mFld ctab "own_name" (mVar 0)))
def m_Entry_name : List D → Store → Rs D := fnK 1 0 b_Entry_name
theorem c_Entry_name (T : Tx K mg) : CalF P w K mg base CX0 1 (gp K "Entry" "name") "name" "Entry.name" s_Entry_name [] [] ["self"] (modSp K m_Entry_name) := by
  refine calF_K (body := b_Entry_name) (nl := 0) T.d_Entry_name sc_Entry_name rfl (fun cdv A outer s H E hr => ⟨_, (pss_one (ps_ret (pe_fldK (K := K) (pv 0)))), ?_⟩)
  exact (t_ret (d_fld T.G (d_var 0)))
abbrev N_Entry_words : List Str := ["self"]
theorem sc_Entry_words : FnScope N_Entry_words ["self"] (defScope s_Entry_words) := ⟨rfl, rfl, rfl, by decide +kernel, rfl, by decide +kernel, by decide +kernel⟩
def b_Entry_words : MS := (sRet (mCb dTuple (mCons (mFz (mCc lListD (mCons (mFld ctab "own_table" (mVar 0)) mNil))) mNil)))
def m_Entry_words : List D → Store → Rs D := fnK 1 0 b_Entry_words
theorem c_Entry_words (T : Tx K mg) : CalF P w K mg base CX0 1 (gp K "Entry" "words") "words" "Entry.words" s_Entry_words [] [] ["self"] (modSp K m_Entry_words) := by
  refine calF_K (body := b_Entry_words) (nl := 0) T.d_Entry_words sc_Entry_words rfl (fun cdv A outer s H E hr => ⟨_, (pss_one (ps_ret (pe_callTy (call_tupleA (K := K)) (by rfl) T.b_tuple (by decide +kernel) (pa_cons (pe_callTy (call_listW (K := K) rfl) (by rfl) T.b_list (by decide +kernel) (pa_cons (pe_fldK (K := K) (pv 0)) pa_nil)) pa_nil)))), ?_⟩)
  exact (t_ret (d_cb cd_tuple (s_cons (d_fz (c_cb cc_listD (s_cons (d_fld T.G (d_var 0)) s_nil))) s_nil)))
abbrev N_Entry___getitem : List Str := ["self", "word"]
theorem sc_Entry___getitem : FnScope N_Entry___getitem ["self", "word"] (defScope s_Entry___getitem) := ⟨rfl, rfl, rfl, by decide +kernel, rfl, by decide +kernel, by decide +kernel⟩
def b_Entry___getitem : MS := (sRet (mIf (mTest (mCb (dIsiC ctab) (mCons (mVar 1) (mCons (mC (D.ty "str")) mNil)))) (mDGet (mFld ctab "own_table" (mVar 0)) (mVar 1) (mTup mNil)) (mTup mNil)))
def m_Entry___getitem : List D → Store → Rs D := fnK 2 0 b_Entry___getitem
theorem c_Entry___getitem (T : Tx K mg) : CalF P w K mg base CX0 1 (He.ma K (He.ga K "Entry") "__getitem__") "__getitem__" "Entry.__getitem__" s_Entry___getitem [] [] ["self", "word"] (modSp K m_Entry___getitem) := by
  refine calF_K (body := b_Entry___getitem) (nl := 0) T.d_Entry___getitem sc_Entry___getitem rfl (fun cdv A outer s H E hr => ⟨_, (pss_one (ps_ret (pe_ifExp (pt_val (pe_callB (call_isiA (K := K)) (by rfl) T.b_isinstance (by decide +kernel) (pa_cons (pv 1) (pa_cons (pe_bty (T := "str") (by rfl) T.b_str (by decide +kernel)) pa_nil)))) (pe_dget2 (hu1 hr) (pe_fldK (K := K) (pv 0)) (pv 1) (pe_tup pa_nil) ⟨by rfl, by rfl, by rfl, by rfl⟩) (pe_tup pa_nil)))), ?_⟩)
  exact (t_ret (d_if (b_B (d_cb (cd_isiC T.G) (s_cons (d_var 1) (s_cons d_ty s_nil)))) (d_dget (d_fld T.G (d_var 0)) (d_var 1) (d_tup s_nil)) (d_tup s_nil)))
abbrev N_Entry___eq : List Str := ["self", "other"]
theorem sc_Entry___eq : FnScope N_Entry___eq ["self", "other"] (defScope s_Entry___eq) := ⟨rfl, rfl, rfl, by decide +kernel, rfl, by decide +kernel, by decide +kernel⟩
def b_Entry___eq : MS := (sRet (mAndV (mCb (dIsiC ctab) (mCons (mVar 1) (mCons (mC (D.cls "Entry")) mNil))) (mOp dEq (mFld ctab "own_key" (mVar 0)) (mFld ctab "own_key" (mVar 1)))))
def m_Entry___eq : List D → Store → Rs D := fnK 2 0 b_Entry___eq
theorem c_Entry___eq (T : Tx K mg) : CalF P w K mg base CX0 1 (He.ma K (He.ga K "Entry") "__eq__") "__eq__" "Entry.__eq__" s_Entry___eq [] [] ["self", "other"] (modSp K m_Entry___eq) := by
  refine calF_K (body := b_Entry___eq) (nl := 0) T.d_Entry___eq sc_Entry___eq rfl (fun cdv A outer s H E hr => ⟨_, (pss_one (ps_ret (pe_and (pe_callB (call_isiA (K := K)) (by rfl) T.b_isinstance (by decide +kernel) (pa_cons (pv 1) (pa_cons (pe_globR (by rfl) T.k_Entry) pa_nil))) (pe_one (pe_cmpR (cm_Eq (K := K) hr.units) (pe_fldK (K := K) (pv 0)) (pe_fldK (K := K) (pv 1)) (nomark _)))))), ?_⟩)
  exact (t_ret (d_andV (d_cb (cd_isiC T.G) (s_cons (d_var 1) (s_cons d_cls s_nil))) (d_op od_eq (d_fld T.G (d_var 0)) (d_fld T.G (d_var 1)))))
def eqTab : OTab := [("Name", m_Name___eq), ("Entry", m_Entry___eq)]
theorem f_eq (T : Tx K mg) : ∀ p ∈ ownL K "__eq__" eqTab, FnR P w K mg base CX0 1 p.1 p.2 := by
  intro p hp
  simp only [ownL, eqTab, List.map_cons, List.map_nil, List.mem_cons, List.not_mem_nil, or_false] at hp
  rcases hp with rfl | rfl
  · have h := CalF.raw2 (c_Name___eq (P := P) (w := w) (base := base) T) (bs_0 (n := 2) (ks := []) (js := [0, 1]) (fun _ _ _ _ _ _ us ws h1 h2 => match us, ws, h1, h2 with | [_, _], [], _, _ => rfl))
    exact h.mono (by decide)
  · have h := CalF.raw2 (c_Entry___eq (P := P) (w := w) (base := base) T) (bs_0 (n := 2) (ks := []) (js := [0, 1]) (fun _ _ _ _ _ _ us ws h1 h2 => match us, ws, h1, h2 with | [_, _], [], _, _ => rfl))
    exact h.mono (by decide)
theorem o_eq (T : Tx K mg) : OwnOk K "__eq__" eqTab := by
  intro p hp
  simp only [eqTab, List.mem_cons, List.not_mem_nil, or_false] at hp
  rcases hp with rfl | rfl
  · exact T.mt_Name___eq "Name" (by simp)
  · exact T.mt_Entry___eq "Entry" (by simp)
end
end My
namespace My
open PySem PySem.Spec PyProof.Rows L2
section
variable {P : Program} [hP : OkP fileS P] {w : World} {K : PySem.W.Frag} {mg : Str → Option Value} {base : Heap}
abbrev N_Entry_with_values : List Str := ["self", "attributes"]
theorem sc_Entry_with_values : FnScope N_Entry_with_values ["self", "attributes"] (defScope s_Entry_with_values) := ⟨rfl, rfl, rfl, by decide +kernel, rfl, by decide +kernel, by decide +kernel⟩
def b_Entry_with_values : MS := (sSeq (sDropX (mCallX m_need_table (mCons (mVar 1) mNil)))
    (sRetX (mMethCPX "Entry" m_Entry_of (mC (D.cls "Entry")) (mCons (mFld ctab "own_name" (mVar 0)) (mCons (mFzD (mDst2 (mFld ctab "own_table" (mVar 0)) (mVar 1))) mNil)))))
def m_Entry_with_values : List D → Store → Rs D := fnDX 2 0 b_Entry_with_values
theorem c_Entry_with_values (T : Tx K mg) : FnRK P w K mg base (L2.CX P w) 11 (He.ma K (He.ga K "Entry") "with_values") 1 ["self"] (modSpX K m_Entry_with_values) := by
  have C_need_table := c_need_table (P := P) (w := w) (base := base) T
  have C_Entry_of := c_Entry_of (P := P) (w := w) (base := base) T
  refine calKw_DX (ps := ["self"]) (pd := "attributes") (body := b_Entry_with_values) (nl := 0) T.d_Entry_with_values sc_Entry_with_values rfl rfl rfl rfl rfl rfl rfl (by decide) (fun cdv A outer s H E hr => ⟨_, (pss_cons (ps_expr (pe_callX (E := WE (fun cls d _ H => E cls d H)) C_need_table (hr.mono (by decide)) (by rfl) (fun σ => L2.passAt (L2.takes_of rfl rfl rfl rfl) σ) (pa_cons (pv 1) pa_nil)))
      (pss_one (ps_ret (ClX.pe_cmeth (E := E) (pe_globR (by rfl) T.k_Entry) T.cm_Entry_of.rd T.cm_Entry_of.mt (CalF.rawN (n := 3) rfl (fun vs h => match vs, h with | [_, _, _], _ => rfl) C_Entry_of (bs_0 (fun _ _ _ _ _ _ us ws h1 h2 => match us, ws, h1, h2 with | [_, _, _], [], _, _ => rfl))) (hr.mono (by decide)) (L2.passes_call (L2.takes_of rfl rfl rfl rfl) (fun _ _ _ _ h => h)) (pa_cons (pe_fldK (K := K) (pv 0)) (pa_cons (pe_dst2 (pe_fldK (K := K) (pv 0)) (pv 1)) pa_nil)))))), ?_⟩)
  exact (t_seq (t_dropX (x_callX (s_cons (d_var 1) s_nil)))
      (t_retX (x_methCPX d_cls (s_cons (d_fld T.G (d_var 0)) (s_cons (d_fzD (k_dst2 (d_fld T.G (d_var 0)) (d_var 1))) s_nil)))))
abbrev N_Entry_renamed : List Str := ["self", "name"]
theorem sc_Entry_renamed : FnScope N_Entry_renamed ["self", "name"] (defScope s_Entry_renamed) := ⟨rfl, rfl, rfl, by decide +kernel, rfl, by decide +kernel, by decide +kernel⟩
def b_Entry_renamed : MS := (sRetX (mMethCPX "Entry" m_Entry_of (mC (D.cls "Entry")) (mCons (mVar 1) (mCons (mFld ctab "own_table" (mVar 0)) mNil))))
def m_Entry_renamed : List D → Store → Rs D := fnKX 2 0 b_Entry_renamed
theorem c_Entry_renamed (T : Tx K mg) : CalF P w K mg base (L2.CX P w) 11 (He.ma K (He.ga K "Entry") "renamed") "renamed" "Entry.renamed" s_Entry_renamed [] [] ["self", "name"] (modSpX K m_Entry_renamed) := by
  have C_Entry_of := c_Entry_of (P := P) (w := w) (base := base) T
  refine calF_KX (body := b_Entry_renamed) (nl := 0) T.d_Entry_renamed sc_Entry_renamed rfl (fun cdv A outer s H E hr => ⟨_, (pss_one (ps_ret (ClX.pe_cmeth (E := E) (pe_globR (by rfl) T.k_Entry) T.cm_Entry_of.rd T.cm_Entry_of.mt (CalF.rawN (n := 3) rfl (fun vs h => match vs, h with | [_, _, _], _ => rfl) C_Entry_of (bs_0 (fun _ _ _ _ _ _ us ws h1 h2 => match us, ws, h1, h2 with | [_, _, _], [], _, _ => rfl))) (hr.mono (by decide)) (L2.passes_call (L2.takes_of rfl rfl rfl rfl) (fun _ _ _ _ h => h)) (pa_cons (pv 1) (pa_cons (pe_fldK (K := K) (pv 0)) pa_nil))))), ?_⟩)
  exact (t_retX (x_methCPX d_cls (s_cons (d_var 1) (s_cons (d_fld T.G (d_var 0)) s_nil))))
end
end My
namespace My
open PySem PySem.Spec PyProof.Rows L2
section
variable {P : Program} [hP : OkP fileS P] {w : World} {K : PySem.W.Frag} {mg : Str → Option Value} {base : Heap}
abbrev N_l_cell : List Str := ["_law_cells", "_law_spot", "_law_k", "_law_many", "_law_own", "_law_far", "_law_base", "_law_turn"]
theorem sc_l_cell : FnScope N_l_cell ["_law_cells", "_law_spot"] (defScope s_l_cell) := ⟨rfl, rfl, rfl, by decide +kernel, rfl, by decide +kernel, by decide +kernel⟩
def lb_l_cell_1 : MS := (sAsg (mOp dDiv (mVar 4) (mC (D.int 306783379))) (tgName 4))
def b_l_cell : MS := (sSeq (sSetIxD (mOp dAdd (mOp dIxD (mVar 1) (mC (D.int 0))) (mC (D.int 1))) (mVar 1) (mC (D.int 0)))
    (sSeq (sPar 2 3 (mCons (mOp dIxD (mVar 1) (mC (D.int 0))) (mCons (mCb dMaxU (mCons (mC (D.int 1)) (mCons (mCb dLen (mCons (mVar 0) mNil)) mNil))) mNil)))
    (sSeq (sPar 4 5 (mCons (mOp dIxD (mOp dAdd (mVar 0) (mFz (mLst (mCons (mC (D.int 0)) mNil)))) (mOp dMod (mCb dInt (mCons (mVar 2) mNil)) (mVar 3))) (mCons (mOp dDiv (mVar 2) (mVar 3)) mNil)))
    (sSeq (sAsg (mOp dAdd (mOp dAdd (mOp dMul (mOp dMul (mC (D.int 31)) (mVar 2)) (mVar 2)) (mOp dMul (mC (D.int 7919)) (mVar 2))) (mOp dMul (mOp dMod (mCb dInt (mCons (mVar 4) mNil)) (mC (D.int 2147483629))) (mOp dAdd (mC (D.int 1)) (mVar 5)))) (tgName 6))
    (sSeq (sIf (mAnd (mTest (mOp dGe (mVar 4) (mOp dPow (mC (D.int 10)) (mC (D.int 18))))) (mTest (mOp dLtA (mVar 5) (mC (D.int 60))))) (sSeq (sFor (mRange1 (mCons (mVar 5) mNil)) (tgName 7) lb_l_cell_1)
    (sIf (mTest (mOp dGt (mVar 4) (mC (D.int 0)))) (sRet (mOp dMod (mCb dInt (mCons (mVar 4) mNil)) (mC (D.int 306783379)))) sNext)) sNext)
    (sRet (mOp dDiv (mOp dMod (mCb dInt (mCons (mOp dPow (mOp dMod (mCb dInt (mCons (mVar 6) mNil)) (mC (D.int 2147483647))) (mC (D.int 5))) mNil)) (mC (D.int 2147483647))) (mC (D.int 7)))))))))
def m_l_cell : List D → Store → Rs D := fnK 2 6 b_l_cell
theorem c_l_cell (T : Tx K mg) : Cal P w K mg base 1 "_law_cell" ["_law_cells", "_law_spot"] (modSp K m_l_cell) := by
  refine cal_K (body := b_l_cell) (nl := 6) T.d_l_cell sc_l_cell rfl (fun _ _ _ _ _ _ us hl => match us, hl with | [_, _], _ => rfl) (fun f cdv A outer s H E hr => ⟨_, (pss_cons (ps_asg (pe_op (op_Add (K := K)) (pe_ix (ix_anyD (K := K) (hu1 hr)) (pv 1) pe_int (fun _ _ => rfl)) pe_int) (pg_sub (pv 1) pe_int (set_any (hu1 hr))))
      (pss_cons (ps_par (i := 2) (j := 3) (by rfl) sc_l_cell.nd rfl rfl (by decide) rfl rfl (pa_cons (pe_ix (ix_anyD (K := K) (hu1 hr)) (pv 1) pe_int (fun _ _ => rfl)) (pa_cons (pe_callB (call_maxU (K := K)) (by rfl) T.b_max (by decide +kernel) (pa_cons pe_int (pa_cons (pe_callB (call_lenA (K := K)) (by rfl) T.b_len (by decide +kernel) (pa_cons (pv 0) pa_nil)) pa_nil))) pa_nil)) (by rfl))
      (pss_cons (ps_par (i := 4) (j := 5) (by rfl) sc_l_cell.nd rfl rfl (by decide) rfl rfl (pa_cons (pe_ix (ix_anyD (K := K) (hu1 hr)) (pe_op (op_Add (K := K)) (pv 0) (pe_lst (pa_cons pe_int pa_nil))) (pe_op op_mod (pe_callTy call_intA (by rfl) T.b_int (by decide +kernel) (pa_cons (pv 2) pa_nil)) (pv 3)) (fun _ _ => rfl)) (pa_cons (pe_op op_FloorDiv (pv 2) (pv 3)) pa_nil)) (by rfl))
      (pss_cons (ps_set (i := 6) sc_l_cell.nd rfl (by first | exact Or.inl rfl | exact Or.inr rfl) (pe_op (op_Add (K := K)) (pe_op (op_Add (K := K)) (pe_op op_Mult (pe_op op_Mult pe_int (pv 2)) (pv 2)) (pe_op op_Mult pe_int (pv 2))) (pe_op op_Mult (pe_op op_mod (pe_callTy call_intA (by rfl) T.b_int (by decide +kernel) (pa_cons (pv 4) pa_nil)) pe_int) (pe_op (op_Add (K := K)) pe_int (pv 5)))))
      (pss_cons (ps_if (PW.pt (pw_and (pt_cmpR cm_GtE (pv 4) (pe_op op_pow pe_int pe_int) (nomark _)) (pw_and1 (pt_cmpR (cm_LtA (K := K) hr.units) (pv 5) pe_int (nomark _))))) (pss_cons (ps_for PassesOwn.never rfl (pi_range1 (by rfl) T.b_range (pa_cons (pv 5) pa_nil)) (pg_name (i := 7) sc_l_cell.nd rfl (by first | exact Or.inl rfl | exact Or.inr rfl))
      (pss_one (ps_set (i := 4) sc_l_cell.nd rfl (by first | exact Or.inl rfl | exact Or.inr rfl) (pe_op op_FloorDiv (pv 4) pe_int))))
      (pss_one (ps_if (pt_cmpR cm_Gt (pv 4) pe_int (nomark _)) (pss_one (ps_ret (pe_op op_mod (pe_callTy call_intA (by rfl) T.b_int (by decide +kernel) (pa_cons (pv 4) pa_nil)) pe_int))) pss_nil))) pss_nil)
      (pss_one (ps_ret (pe_op op_FloorDiv (pe_op op_mod (pe_callTy call_intA (by rfl) T.b_int (by decide +kernel) (pa_cons (pe_op op_pow (pe_op op_mod (pe_callTy call_intA (by rfl) T.b_int (by decide +kernel) (pa_cons (pv 6) pa_nil)) pe_int) pe_int) pa_nil)) pe_int) pe_int)))))))), ?_⟩)
  exact (t_seq (t_setIxD (d_op od_add (d_op od_ixD (d_var 1) d_int) d_int) (d_var 1) d_int)
      (t_seq (t_par (s_cons (d_op od_ixD (d_var 1) d_int) (s_cons (d_cb cd_maxU (s_cons d_int (s_cons (d_cb cd_len (s_cons (d_var 0) s_nil)) s_nil))) s_nil)))
      (t_seq (t_par (s_cons (d_op od_ixD (d_op od_add (d_var 0) (d_fz (c_lst (s_cons d_int s_nil)))) (d_op od_mod (d_cb cd_int (s_cons (d_var 2) s_nil)) (d_var 3))) (s_cons (d_op od_div (d_var 2) (d_var 3)) s_nil)))
      (t_seq (t_asg (d_op od_add (d_op od_add (d_op od_mul (d_op od_mul d_int (d_var 2)) (d_var 2)) (d_op od_mul d_int (d_var 2))) (d_op od_mul (d_op od_mod (d_cb cd_int (s_cons (d_var 4) s_nil)) d_int) (d_op od_add d_int (d_var 5)))) (g_name 6))
      (t_seq (t_if (b_and (b_test (d_op od_ge (d_var 4) (d_op od_pow d_int d_int))) (b_test (d_op od_ltA (d_var 5) d_int))) (t_seq (t_for (i_range1 (s_cons (d_var 5) s_nil)) (g_name 7) (t_asg (d_op od_div (d_var 4) d_int) (g_name 4)))
      (t_if (b_test (d_op od_gt (d_var 4) d_int)) (t_ret (d_op od_mod (d_cb cd_int (s_cons (d_var 4) s_nil)) d_int)) t_next)) t_next)
      (t_ret (d_op od_div (d_op od_mod (d_cb cd_int (s_cons (d_op od_pow (d_op od_mod (d_cb cd_int (s_cons (d_var 6) s_nil)) d_int) d_int) s_nil)) d_int) d_int)))))))
abbrev N_l_draw : List Str := ["_law_m", "_law_n"]
theorem sc_l_draw : FnScope N_l_draw ["_law_m", "_law_n"] (defScope s_l_draw) := ⟨rfl, rfl, rfl, by decide +kernel, rfl, by decide +kernel, by decide +kernel⟩
def b_l_draw : MS := (sRet (mOp dMod (mCb dInt (mCons (mCall m_l_cell (mCons (mOp dIxD (mVar 0) (mC (D.str [99, 101, 108, 108, 115]))) (mCons (mOp dIxD (mVar 0) (mC (D.str [115, 112, 111, 116]))) mNil))) mNil)) (mVar 1)))
def m_l_draw : List D → Store → Rs D := fnK 2 0 b_l_draw
theorem c_l_draw (T : Tx K mg) : Cal P w K mg base 2 "_law_draw" ["_law_m", "_law_n"] (modSp K m_l_draw) := by
  have C_l_cell := c_l_cell (P := P) (w := w) (base := base) T
  refine cal_K (body := b_l_draw) (nl := 0) T.d_l_draw sc_l_draw rfl (fun _ _ _ _ _ _ us hl => match us, hl with | [_, _], _ => rfl) (fun f cdv A outer s H E hr => ⟨_, (pss_one (ps_ret (pe_op op_mod (pe_callTy call_intA (by rfl) T.b_int (by decide +kernel) (pa_cons (pe_callC C_l_cell (hr.mono (by decide)) (by rfl) (pa_cons (pe_ix (ix_anyD (K := K) (hu1 hr)) (pv 0) pe_str (fun _ _ => rfl)) (pa_cons (pe_ix (ix_anyD (K := K) (hu1 hr)) (pv 0) pe_str (fun _ _ => rfl)) pa_nil))) pa_nil)) (pv 1)))), ?_⟩)
  exact (t_ret (d_op od_mod (d_cb cd_int (s_cons (d_call (s_cons (d_op od_ixD (d_var 0) (d_str [99, 101, 108, 108, 115] (by decide +kernel))) (s_cons (d_op od_ixD (d_var 0) (d_str [115, 112, 111, 116] (by decide +kernel))) s_nil))) s_nil)) (d_var 1)))
abbrev N_l_of : List Str := ["_law_m", "_law_some"]
theorem sc_l_of : FnScope N_l_of ["_law_m", "_law_some"] (defScope s_l_of) := ⟨rfl, rfl, rfl, by decide +kernel, rfl, by decide +kernel, by decide +kernel⟩
def b_l_of : MS := (sRet (mOp dIxD (mVar 1) (mCall m_l_draw (mCons (mVar 0) (mCons (mCb dLen (mCons (mVar 1) mNil)) mNil)))))
def m_l_of : List D → Store → Rs D := fnK 2 0 b_l_of
theorem c_l_of (T : Tx K mg) : Cal P w K mg base 3 "_law_of" ["_law_m", "_law_some"] (modSp K m_l_of) := by
  have C_l_draw := c_l_draw (P := P) (w := w) (base := base) T
  refine cal_K (body := b_l_of) (nl := 0) T.d_l_of sc_l_of rfl (fun _ _ _ _ _ _ us hl => match us, hl with | [_, _], _ => rfl) (fun f cdv A outer s H E hr => ⟨_, (pss_one (ps_ret (pe_ix (ix_anyD (K := K) (hu1 hr)) (pv 1) (pe_callC C_l_draw (hr.mono (by decide)) (by rfl) (pa_cons (pv 0) (pa_cons (pe_callB (call_lenA (K := K)) (by rfl) T.b_len (by decide +kernel) (pa_cons (pv 1) pa_nil)) pa_nil))) (fun _ _ => rfl)))), ?_⟩)
  exact (t_ret (d_op od_ixD (d_var 1) (d_call (s_cons (d_var 0) (s_cons (d_cb cd_len (s_cons (d_var 1) s_nil)) s_nil)))))
abbrev N_l_words : List Str := ["_law_m", "_law_many", "_law_letters", "_law_size", "_law_found", "_law_rest", "_law_k", "_law_at", "_law_first", "_law_alike", "_law_word", "_law_sign", "_law_tries", "_law_one"]
theorem sc_l_words : FnScope N_l_words ["_law_m", "_law_many"] (defScope s_l_words) := ⟨rfl, rfl, rfl, by decide +kernel, rfl, by decide +kernel, by decide +kernel⟩
def le_l_words_1 : Mo D := (mOp dIxD (mC (D.str [97, 98, 99, 100, 101, 102, 103, 104, 105, 106, 107, 108, 109, 110, 111, 112, 113, 114, 115, 116, 117, 118, 119, 120, 121])) (mCall m_l_draw (mCons (mVar 0) (mCons (mC (D.int 25)) mNil))))
def le_l_words_2 : Mo D := (mOp dAdd (mSl dSlV (mVar 10) mNoP (mPart (mC (D.int 11)))) (mVar 11))
def le_l_words_3 : Mo D := (mVar 13)
def lt_l_words_4 : Mo Bool := (mAnd (mTest (mOp dNiD (mVar 13) (mVar 4))) (mTest (mOp dNe (mVar 13) (mC (D.str [115, 101, 108, 102])))))
def lb_l_words_5 : MS := (sSeq (sAsg (mOp dAdd (mCall m_l_of (mCons (mVar 0) (mCons (mVar 2) mNil))) (mSl dSlV (mVar 5) mNoP (mPart (mCall m_l_draw (mCons (mVar 0) (mCons (mOp dAdd (mVar 3) (mC (D.int 1))) mNil)))))) (tgName 10))
    (sSeq (sIf (mAnd (mTest (mVar 9)) (mTest (mOp dEq (mVar 7) (mC (D.int 0))))) (sAsg (mOp dAdd (mOp dIxD (mVar 2) (mOp dMod (mCb dInt (mCons (mOp dAdd (mVar 8) (mVar 6)) mNil)) (mC (D.int 22)))) (mVar 5)) (tgName 10)) sNext)
    (sSeq (sIf (mAnd (mTest (mVar 9)) (mTest (mOp dGt (mVar 7) (mC (D.int 0))))) (sSeq (sAsg (mOp dIxD (mC (D.str [97, 98, 99, 100, 101, 102, 103, 104, 105, 106, 107, 108, 109, 110, 111, 112, 113, 114, 115, 116, 117, 118, 119, 120, 121])) (mOp dMod (mCb dInt (mCons (mOp dAdd (mVar 8) (mVar 6)) mNil)) (mC (D.int 25)))) (tgName 11))
    (sAsg (mOp dAdd (mOp dAdd (mOp dAdd (mOp dIxD (mVar 2) (mVar 8)) (mSl dSlV (mVar 5) mNoP (mPart (mOp dSub (mVar 7) (mC (D.int 1)))))) (mVar 11)) (mSl dSlV (mVar 5) (mPart (mVar 7)) mNoP)) (tgName 10))) sNext)
    (sSeq (sAsg (mOp dAdd (mFz (mLst (mCons (mVar 10) mNil))) (mFz (mLc (mIter (mVar 2)) (tgName 11) (mC true) le_l_words_2 [11]))) (tgName 12))
    (sDrop (mApp (mVar 4) (mOp dIxD (mFz (mLc (mIter (mVar 12)) (tgName 13) lt_l_words_4 le_l_words_3 [13])) (mC (D.int 0)))))))))
def b_l_words : MS := (sSeq (sAsg (mTup (mCons (mC (D.str [97, 98, 99, 101, 102, 103, 104, 105, 106, 108, 109, 110, 111, 112, 113, 115, 116, 117, 118, 119, 120, 121])) (mCons (mCall m_l_draw (mCons (mVar 0) (mCons (mC (D.int 11)) mNil))) (mCons (mCell (mLst mNil)) mNil)))) (tgT 3 (tgCons (tgName 2) (tgCons (tgName 3) (tgCons (tgName 4) tgNil)))))
    (sSeq (sAsg (mBm dJoin (mC (D.str [])) (mCons (mFz (mLc (mRange1 (mCons (mVar 3) mNil)) (tgName 6) (mC true) le_l_words_1 [6])) mNil)) (tgName 5))
    (sSeq (sPar3 7 8 9 (mCons (mCall m_l_draw (mCons (mVar 0) (mCons (mOp dAdd (mVar 3) (mC (D.int 1))) mNil))) (mCons (mCall m_l_draw (mCons (mVar 0) (mCons (mC (D.int 22)) mNil))) (mCons (mOp dEq (mCall m_l_draw (mCons (mVar 0) (mCons (mC (D.int 2)) mNil))) (mC (D.int 0))) mNil))))
    (sSeq (sFor (mRange1 (mCons (mVar 1) mNil)) (tgName 6) lb_l_words_5)
    (sRet (mVar 4))))))
def m_l_words : List D → Store → Rs D := fnD 2 12 b_l_words
theorem c_l_words (T : Tx K mg) : Cal P w K mg base 4 "_law_words" ["_law_m", "_law_many"] (modSp K m_l_words) := by
  have C_l_draw := c_l_draw (P := P) (w := w) (base := base) T
  have C_l_of := c_l_of (P := P) (w := w) (base := base) T
  refine cal_D (body := b_l_words) (nl := 12) T.d_l_words sc_l_words rfl (fun _ _ _ _ _ _ us hl => match us, hl with | [_, _], _ => rfl) (fun f cdv A outer s H E hr => ⟨_, (pss_cons (ps_asg (pe_tup (pa_cons pe_str (pa_cons (pe_callC C_l_draw (hr.mono (by decide)) (by rfl) (pa_cons (pv 0) (pa_cons pe_int pa_nil))) (pa_cons (pe_lst pa_nil) pa_nil)))) (pg_tupK (K := K) (n := 3) rfl (pgs_cons (pg_name (i := 2) sc_l_words.nd rfl (by first | exact Or.inl rfl | exact Or.inr rfl)) (pgs_cons (pg_name (i := 3) sc_l_words.nd rfl (by first | exact Or.inl rfl | exact Or.inr rfl)) (pgs_cons (pg_name (i := 4) sc_l_words.nd rfl (by first | exact Or.inl rfl | exact Or.inr rfl)) pgs_nil)))))
      (pss_cons (ps_set (i := 5) sc_l_words.nd rfl (by first | exact Or.inl rfl | exact Or.inr rfl) (pe_bmK (K := K) PySem.F.plainAttrs_str PySem.F.slot_str_join PySem.F.type_str_join (mt_joinA (K := K)) pe_str (pa_cons (pe_lc (own := [("_law_k", 6)]) (by rfl) sc_l_words.nd (pi_range1 (by rfl) T.b_range (pa_cons (pv 3) pa_nil)) (blkOk_by (own := [("_law_k", 6)]) (N := N_l_words) (sc := defScope s_l_words) (by decide +kernel)) (fun _ _ _ _ _ => (pg_name (i := 6) sc_l_words.nd rfl (by first | exact Or.inl rfl | exact Or.inr rfl))) (fun _ _ _ _ _ => pts_nil) (fun _ _ _ _ _ => (pe_ix (ix_anyD (K := K) (hu1 hr)) pe_str (pe_callC C_l_draw (hr.mono (by decide)) (by rfl) (pa_cons (pv 0) (pa_cons pe_int pa_nil))) (fun _ _ => rfl)))) pa_nil)))
      (pss_cons (ps_par3 (i := 7) (j := 8) (l := 9) (by rfl) sc_l_words.nd rfl rfl rfl (by decide) (by decide) (by decide) rfl rfl rfl (pa_cons (pe_callC C_l_draw (hr.mono (by decide)) (by rfl) (pa_cons (pv 0) (pa_cons (pe_op (op_Add (K := K)) (pv 3) pe_int) pa_nil))) (pa_cons (pe_callC C_l_draw (hr.mono (by decide)) (by rfl) (pa_cons (pv 0) (pa_cons pe_int pa_nil))) (pa_cons (pe_cmpR (cm_Eq (K := K) hr.units) (pe_callC C_l_draw (hr.mono (by decide)) (by rfl) (pa_cons (pv 0) (pa_cons pe_int pa_nil))) pe_int (nomark _)) pa_nil))) (by rfl))
      (pss_cons (ps_for PassesOwn.never rfl (pi_range1 (by rfl) T.b_range (pa_cons (pv 1) pa_nil)) (pg_name (i := 6) sc_l_words.nd rfl (by first | exact Or.inl rfl | exact Or.inr rfl))
      (pss_cons (ps_set (i := 10) sc_l_words.nd rfl (by first | exact Or.inl rfl | exact Or.inr rfl) (pe_op (op_Add (K := K)) (pe_callC C_l_of (hr.mono (by decide)) (by rfl) (pa_cons (pv 0) (pa_cons (pv 2) pa_nil))) (pe_slice (sl_all (K := K)) (pv 5) po_none (po_some (pe_callC C_l_draw (hr.mono (by decide)) (by rfl) (pa_cons (pv 0) (pa_cons (pe_op (op_Add (K := K)) (pv 3) pe_int) pa_nil)))))))
      (pss_cons (ps_if (PW.pt (pw_and (pt_val (pv 9)) (pw_and1 (pt_cmpR (cm_Eq (K := K) hr.units) (pv 7) pe_int (nomark _))))) (pss_one (ps_set (i := 10) sc_l_words.nd rfl (by first | exact Or.inl rfl | exact Or.inr rfl) (pe_op (op_Add (K := K)) (pe_ix (ix_anyD (K := K) (hu1 hr)) (pv 2) (pe_op op_mod (pe_callTy call_intA (by rfl) T.b_int (by decide +kernel) (pa_cons (pe_op (op_Add (K := K)) (pv 8) (pv 6)) pa_nil)) pe_int) (fun _ _ => rfl)) (pv 5)))) pss_nil)
      (pss_cons (ps_if (PW.pt (pw_and (pt_val (pv 9)) (pw_and1 (pt_cmpR cm_Gt (pv 7) pe_int (nomark _))))) (pss_cons (ps_set (i := 11) sc_l_words.nd rfl (by first | exact Or.inl rfl | exact Or.inr rfl) (pe_ix (ix_anyD (K := K) (hu1 hr)) pe_str (pe_op op_mod (pe_callTy call_intA (by rfl) T.b_int (by decide +kernel) (pa_cons (pe_op (op_Add (K := K)) (pv 8) (pv 6)) pa_nil)) pe_int) (fun _ _ => rfl)))
      (pss_one (ps_set (i := 10) sc_l_words.nd rfl (by first | exact Or.inl rfl | exact Or.inr rfl) (pe_op (op_Add (K := K)) (pe_op (op_Add (K := K)) (pe_op (op_Add (K := K)) (pe_ix (ix_anyD (K := K) (hu1 hr)) (pv 2) (pv 8) (fun _ _ => rfl)) (pe_slice (sl_all (K := K)) (pv 5) po_none (po_some (pe_op op_sub (pv 7) pe_int)))) (pv 11)) (pe_slice (sl_all (K := K)) (pv 5) (po_some (pv 7)) po_none))))) pss_nil)
      (pss_cons (ps_set (i := 12) sc_l_words.nd rfl (by first | exact Or.inl rfl | exact Or.inr rfl) (pe_op (op_Add (K := K)) (pe_lst (pa_cons (pv 10) pa_nil)) (pe_lc (own := [("_law_sign", 11)]) (by rfl) sc_l_words.nd (pi_any (K := K) (pv 2)) (blkOk_by (own := [("_law_sign", 11)]) (N := N_l_words) (sc := defScope s_l_words) (by decide +kernel)) (fun _ _ _ _ _ => (pg_name (i := 11) sc_l_words.nd rfl (by first | exact Or.inl rfl | exact Or.inr rfl))) (fun _ _ _ _ _ => pts_nil) (fun _ _ _ _ _ => (pe_op (op_Add (K := K)) (pe_slice (sl_all (K := K)) (pv 10) po_none (po_some pe_int)) (pv 11))))))
      (pss_one (ps_expr (pe_bmK (K := K) PySem.F.plainAttrs_list PySem.F.slot_list_append PySem.F.type_list_append mt_append (pv 4) (pa_cons (pe_ix (ix_anyD (K := K) (hu1 hr)) (pe_lc (own := [("_law_one", 13)]) (by rfl) sc_l_words.nd (pi_any (K := K) (pv 12)) (blkOk_by (own := [("_law_one", 13)]) (N := N_l_words) (sc := defScope s_l_words) (by decide +kernel)) (fun _ _ _ _ _ => (pg_name (i := 13) sc_l_words.nd rfl (by first | exact Or.inl rfl | exact Or.inr rfl))) (fun _ _ _ _ _ => (pts_one (PW.pt (pw_and (pt_cmpR (cm_NotInD (K := K) (hu65 hr)) (pv 13) (pv 4) (by rfl)) (pw_and1 (pt_cmpR (cm_NotEq (K := K) hr.units) (pv 13) pe_str (nomark _))))))) (fun _ _ _ _ _ => (pv 13))) pe_int (fun _ _ => rfl)) pa_nil)))))))))
      (pss_one (ps_ret (pv 4))))))), ?_⟩)
  exact (t_seq (t_asg (d_tup (s_cons (d_str [97, 98, 99, 101, 102, 103, 104, 105, 106, 108, 109, 110, 111, 112, 113, 115, 116, 117, 118, 119, 120, 121] (by decide +kernel)) (s_cons (d_call (s_cons (d_var 0) (s_cons d_int s_nil))) (s_cons (d_cell (c_lst s_nil)) s_nil)))) (g_tup (g_cons (g_name 2) (g_cons (g_name 3) (g_cons (g_name 4) g_nil)))))
      (t_seq (t_asg (d_bm md_join (d_str [] (by decide +kernel)) (s_cons (d_fz (c_lc (vs := [6]) (i_range1 (s_cons (d_var 3) s_nil)) (g_name 6) (by decide) b_yes (d_op od_ixD (d_str [97, 98, 99, 100, 101, 102, 103, 104, 105, 106, 107, 108, 109, 110, 111, 112, 113, 114, 115, 116, 117, 118, 119, 120, 121] (by decide +kernel)) (d_call (s_cons (d_var 0) (s_cons d_int s_nil)))))) s_nil)) (g_name 5))
      (t_seq (t_par3 (s_cons (d_call (s_cons (d_var 0) (s_cons (d_op od_add (d_var 3) d_int) s_nil))) (s_cons (d_call (s_cons (d_var 0) (s_cons d_int s_nil))) (s_cons (d_op od_eq (d_call (s_cons (d_var 0) (s_cons d_int s_nil))) d_int) s_nil))))
      (t_seq (t_for (i_range1 (s_cons (d_var 1) s_nil)) (g_name 6) (t_seq (t_asg (d_op od_add (d_call (s_cons (d_var 0) (s_cons (d_var 2) s_nil))) (d_sl sd_all (d_var 5) o_none (o_some (d_call (s_cons (d_var 0) (s_cons (d_op od_add (d_var 3) d_int) s_nil)))))) (g_name 10))
      (t_seq (t_if (b_and (b_B (d_var 9)) (b_test (d_op od_eq (d_var 7) d_int))) (t_asg (d_op od_add (d_op od_ixD (d_var 2) (d_op od_mod (d_cb cd_int (s_cons (d_op od_add (d_var 8) (d_var 6)) s_nil)) d_int)) (d_var 5)) (g_name 10)) t_next)
      (t_seq (t_if (b_and (b_B (d_var 9)) (b_test (d_op od_gt (d_var 7) d_int))) (t_seq (t_asg (d_op od_ixD (d_str [97, 98, 99, 100, 101, 102, 103, 104, 105, 106, 107, 108, 109, 110, 111, 112, 113, 114, 115, 116, 117, 118, 119, 120, 121] (by decide +kernel)) (d_op od_mod (d_cb cd_int (s_cons (d_op od_add (d_var 8) (d_var 6)) s_nil)) d_int)) (g_name 11))
      (t_asg (d_op od_add (d_op od_add (d_op od_add (d_op od_ixD (d_var 2) (d_var 8)) (d_sl sd_all (d_var 5) o_none (o_some (d_op od_sub (d_var 7) d_int)))) (d_var 11)) (d_sl sd_all (d_var 5) (o_some (d_var 7)) o_none)) (g_name 10))) t_next)
      (t_seq (t_asg (d_op od_add (d_fz (c_lst (s_cons (d_var 10) s_nil))) (d_fz (c_lc (vs := [11]) (i_any (d_var 2)) (g_name 11) (by decide) b_yes (d_op od_add (d_sl sd_all (d_var 10) o_none (o_some d_int)) (d_var 11))))) (g_name 12))
      (t_drop (d_app (d_var 4) (d_op od_ixD (d_fz (c_lc (vs := [13]) (i_any (d_var 12)) (g_name 13) (by decide) (b_and (b_test (d_op od_niD (d_var 13) (d_var 4))) (b_test (d_op od_ne (d_var 13) (d_str [115, 101, 108, 102] (by decide +kernel))))) (d_var 13))) d_int))))))))
      (t_ret (d_var 4))))))
end
end My
namespace My
open PySem PySem.Spec PyProof.Rows L2
section
variable {P : Program} [hP : OkP fileS P] {w : World} {K : PySem.W.Frag} {mg : Str → Option Value} {base : Heap}
abbrev N_l_values : List Str := ["_law_m", "_law_k"]
theorem sc_l_values : FnScope N_l_values ["_law_m"] (defScope s_l_values) := ⟨rfl, rfl, rfl, by decide +kernel, rfl, by decide +kernel, by decide +kernel⟩
def le_l_values_1 : Mo D := (mCall m_l_of (mCons (mVar 0) (mCons (mFz (mLst (mCons (mC (D.str [97])) (mCons (mC (D.str [65])) (mCons (mC (D.str [98])) (mCons (mC (D.str [32])) (mCons (mC (D.str [48])) (mCons (mC (D.str [97, 61, 98])) mNil)))))))) mNil)))
def b_l_values : MS := (sRet (mCb dTuple (mCons (mFz (mLc (mRange1 (mCons (mCall m_l_draw (mCons (mVar 0) (mCons (mC (D.int 4)) mNil))) mNil)) (tgName 1) (mC true) le_l_values_1 [1])) mNil)))
def m_l_values : List D → Store → Rs D := fnK 1 1 b_l_values
theorem c_l_values (T : Tx K mg) : Cal P w K mg base 4 "_law_values" ["_law_m"] (modSp K m_l_values) := by
  have C_l_draw := c_l_draw (P := P) (w := w) (base := base) T
  have C_l_of := c_l_of (P := P) (w := w) (base := base) T
  refine cal_K (body := b_l_values) (nl := 1) T.d_l_values sc_l_values rfl (fun _ _ _ _ _ _ us hl => match us, hl with | [_], _ => rfl) (fun f cdv A outer s H E hr => ⟨_, (pss_one (ps_ret (pe_callTy (call_tupleA (K := K)) (by rfl) T.b_tuple (by decide +kernel) (pa_cons (pe_lc (own := [("_law_k", 1)]) (by rfl) sc_l_values.nd (pi_range1 (by rfl) T.b_range (pa_cons (pe_callC C_l_draw (hr.mono (by decide)) (by rfl) (pa_cons (pv 0) (pa_cons pe_int pa_nil))) pa_nil)) (blkOk_by (own := [("_law_k", 1)]) (N := N_l_values) (sc := defScope s_l_values) (by decide +kernel)) (fun _ _ _ _ _ => (pg_name (i := 1) sc_l_values.nd rfl (by first | exact Or.inl rfl | exact Or.inr rfl))) (fun _ _ _ _ _ => pts_nil) (fun _ _ _ _ _ => (pe_callC C_l_of (hr.mono (by decide)) (by rfl) (pa_cons (pv 0) (pa_cons (pe_lst (pa_cons pe_str (pa_cons pe_str (pa_cons pe_str (pa_cons pe_str (pa_cons pe_str (pa_cons pe_str pa_nil))))))) pa_nil))))) pa_nil)))), ?_⟩)
  exact (t_ret (d_cb cd_tuple (s_cons (d_fz (c_lc (vs := [1]) (i_range1 (s_cons (d_call (s_cons (d_var 0) (s_cons d_int s_nil))) s_nil)) (g_name 1) (by decide) b_yes (d_call (s_cons (d_var 0) (s_cons (d_fz (c_lst (s_cons (d_str [97] (by decide +kernel)) (s_cons (d_str [65] (by decide +kernel)) (s_cons (d_str [98] (by decide +kernel)) (s_cons (d_str [32] (by decide +kernel)) (s_cons (d_str [48] (by decide +kernel)) (s_cons (d_str [97, 61, 98] (by decide +kernel)) s_nil)))))))) s_nil))))) s_nil)))
abbrev N_l_text : List Str := ["_law_m"]
theorem sc_l_text : FnScope N_l_text ["_law_m"] (defScope s_l_text) := ⟨rfl, rfl, rfl, by decide +kernel, rfl, by decide +kernel, by decide +kernel⟩
def b_l_text : MS := (sRet (mCall m_l_of (mCons (mVar 0) (mCons (mFz (mLst (mCons (mC (D.str [99, 110, 61, 97])) (mCons (mC (D.str [99, 110, 61, 65])) (mCons (mC (D.str [99, 110, 61, 97, 43, 111, 117, 61, 98])) (mCons (mC (D.str [111, 117, 61, 98, 43, 99, 110, 61, 97])) (mCons (mC (D.str [99, 110, 61, 97, 44, 100, 99, 61, 120])) (mCons (mC (D.str [99, 110, 61, 98, 44, 100, 99, 61, 120])) (mCons (mC (D.str [])) (mCons (mC (D.str [99, 110, 61, 97, 32, 32, 98])) (mCons (mC (D.str [99, 110, 61, 97, 32, 98])) mNil))))))))))) mNil))))
def m_l_text : List D → Store → Rs D := fnK 1 0 b_l_text
theorem c_l_text (T : Tx K mg) : Cal P w K mg base 4 "_law_text" ["_law_m"] (modSp K m_l_text) := by
  have C_l_of := c_l_of (P := P) (w := w) (base := base) T
  refine cal_K (body := b_l_text) (nl := 0) T.d_l_text sc_l_text rfl (fun _ _ _ _ _ _ us hl => match us, hl with | [_], _ => rfl) (fun f cdv A outer s H E hr => ⟨_, (pss_one (ps_ret (pe_callC C_l_of (hr.mono (by decide)) (by rfl) (pa_cons (pv 0) (pa_cons (pe_lst (pa_cons pe_str (pa_cons pe_str (pa_cons pe_str (pa_cons pe_str (pa_cons pe_str (pa_cons pe_str (pa_cons pe_str (pa_cons pe_str (pa_cons pe_str pa_nil)))))))))) pa_nil))))), ?_⟩)
  exact (t_ret (d_call (s_cons (d_var 0) (s_cons (d_fz (c_lst (s_cons (d_str [99, 110, 61, 97] (by decide +kernel)) (s_cons (d_str [99, 110, 61, 65] (by decide +kernel)) (s_cons (d_str [99, 110, 61, 97, 43, 111, 117, 61, 98] (by decide +kernel)) (s_cons (d_str [111, 117, 61, 98, 43, 99, 110, 61, 97] (by decide +kernel)) (s_cons (d_str [99, 110, 61, 97, 44, 100, 99, 61, 120] (by decide +kernel)) (s_cons (d_str [99, 110, 61, 98, 44, 100, 99, 61, 120] (by decide +kernel)) (s_cons (d_str [] (by decide +kernel)) (s_cons (d_str [99, 110, 61, 97, 32, 32, 98] (by decide +kernel)) (s_cons (d_str [99, 110, 61, 97, 32, 98] (by decide +kernel)) s_nil))))))))))) s_nil))))
end
end My
namespace My
open PySem PySem.Spec PyProof.Rows L2
section
variable {P : Program} [hP : OkP fileS P] {w : World} {K : PySem.W.Frag} {mg : Str → Option Value} {base : Heap}
abbrev N_l_put : List Str := ["_law_table", "_law_rows", "_law_found", "_law_word", "_law_values_here"]
theorem sc_l_put : FnScope N_l_put ["_law_table", "_law_rows"] (defScope s_l_put) := ⟨rfl, rfl, rfl, by decide +kernel, rfl, by decide +kernel, by decide +kernel⟩
def le_l_put_1 : Mo D := (mTup (mCons (mVar 3) (mCons (mOp dIxD (mVar 0) (mVar 3)) mNil)))
def lb_l_put_2 : MS := (sSetIxD (mVar 4) (mVar 2) (mVar 3))
def le_l_put_3 : Mo D := (mTup (mCons (mVar 3) (mCons (mOp dIxD (mVar 2) (mVar 3)) mNil)))
def lt_l_put_4 : Mo Bool := (mTest (mOp dNe (mOp dIxD (mVar 2) (mVar 3)) (mTup mNil)))
def lb_l_put_5 : MS := (sSeq (sAsg (mCellD (mDictP (mFz (mLc (mKeys (mVar 0)) (tgName 3) (mC true) le_l_put_1 [3])))) (tgName 2))
    (sFor (mIter (mVar 1)) (tgT 2 (tgCons (tgName 3) (tgCons (tgName 4) tgNil))) lb_l_put_2))
def b_l_put : MS := (sSeq (sBlk lb_l_put_5)
    (sRet (mFzD (mDictP (mFz (mLc (mKeys (mVar 2)) (tgName 3) lt_l_put_4 le_l_put_3 [3]))))))
def m_l_put : List D → Store → Rs D := fnD 2 3 b_l_put
theorem c_l_put (T : Tx K mg) : Cal P w K mg base 1 "_law_put" ["_law_table", "_law_rows"] (modSp K m_l_put) := by
  refine cal_D (body := b_l_put) (nl := 3) T.d_l_put sc_l_put rfl (fun _ _ _ _ _ _ us hl => match us, hl with | [_, _], _ => rfl) (fun f cdv A outer s H E hr => ⟨_, (pss_cons (ps_set (i := 2) sc_l_put.nd rfl (by first | exact Or.inl rfl | exact Or.inr rfl) (pe_callTy (call_dictPK (K := K) rfl) (by rfl) T.b_dict (by decide +kernel) (pa_cons (pe_lkE (pe_lc (own := [("_law_word", 3)]) (by rfl) sc_l_put.nd (pi_keys (pv 0)) (blkOk_by (own := [("_law_word", 3)]) (N := N_l_put) (sc := defScope s_l_put) (by decide +kernel)) (fun _ _ _ _ _ => (pg_name (i := 3) sc_l_put.nd rfl (by first | exact Or.inl rfl | exact Or.inr rfl))) (fun _ _ _ _ _ => pts_nil) (fun _ _ _ _ _ => (pe_tup (pa_cons (pv 3) (pa_cons (pe_ix (ix_anyD (K := K) (hu1 hr)) (pv 0) (pv 3) (fun _ _ => rfl)) pa_nil)))))) pa_nil)))
      (pss_cons (ps_for PassesOwn.never rfl (pi_any (K := K) (pv 1)) (pg_tupK (K := K) (n := 2) rfl (pgs_cons (pg_name (i := 3) sc_l_put.nd rfl (by first | exact Or.inl rfl | exact Or.inr rfl)) (pgs_cons (pg_name (i := 4) sc_l_put.nd rfl (by first | exact Or.inl rfl | exact Or.inr rfl)) pgs_nil)))
      (pss_one (ps_asg (pv 4) (pg_sub (pv 2) (pv 3) (set_any (hu1 hr))))))
      (pss_one (ps_ret (pe_callTy (call_dictPK (K := K) rfl) (by rfl) T.b_dict (by decide +kernel) (pa_cons (pe_lkE (pe_lc (own := [("_law_word", 3)]) (by rfl) sc_l_put.nd (pi_keys (pv 2)) (blkOk_by (own := [("_law_word", 3)]) (N := N_l_put) (sc := defScope s_l_put) (by decide +kernel)) (fun _ _ _ _ _ => (pg_name (i := 3) sc_l_put.nd rfl (by first | exact Or.inl rfl | exact Or.inr rfl))) (fun _ _ _ _ _ => (pts_one (pt_cmpR (cm_NotEq (K := K) hr.units) (pe_ix (ix_anyD (K := K) (hu1 hr)) (pv 2) (pv 3) (fun _ _ => rfl)) (pe_tup pa_nil) (nomark _)))) (fun _ _ _ _ _ => (pe_tup (pa_cons (pv 3) (pa_cons (pe_ix (ix_anyD (K := K) (hu1 hr)) (pv 2) (pv 3) (fun _ _ => rfl)) pa_nil)))))) pa_nil)))))), ?_⟩)
  exact (t_seqB2 (t_blk (t_seq (t_asg (d_cellD (k_dictP (d_fz (c_lcKeys (vs := [3]) (v_var 0) (g_name 3) (by decide) b_yes (d_tup (s_cons (d_var 3) (s_cons (d_op od_ixD (d_var 0) (d_var 3)) s_nil))))))) (g_name 2))
      (t_for (i_any (d_var 1)) (g_tup (g_cons (g_name 3) (g_cons (g_name 4) g_nil))) (t_setIxD (d_var 4) (d_var 2) (d_var 3)))))
      (t_ret (d_fzD (k_dictP (d_fz (c_lcKeys (vs := [3]) (v_var 2) (g_name 3) (by decide) (b_test (d_op od_ne (d_op od_ixD (d_var 2) (d_var 3)) (d_tup s_nil))) (d_tup (s_cons (d_var 3) (s_cons (d_op od_ixD (d_var 2) (d_var 3)) s_nil)))))))))
end
end My
namespace My
open PySem PySem.Spec PyProof.Rows L2
section
variable {P : Program} [hP : OkP fileS P] {w : World} {K : PySem.W.Frag} {mg : Str → Option Value} {base : Heap}
abbrev N_l_is_model : List Str := ["_law_entry", "_law_text_here", "_law_table", "_law_words_here", "_law_word"]
theorem sc_l_is_model : FnScope N_l_is_model ["_law_entry", "_law_text_here", "_law_table"] (defScope s_l_is_model) := ⟨rfl, rfl, rfl, by decide +kernel, rfl, by decide +kernel, by decide +kernel⟩
def le_l_is_model_1 : Mo D := (mVar 4)
def le_l_is_model_2 : Mo D := (mIxO ctab "Entry" m_Entry___getitem (mVar 0) (mVar 4))
def le_l_is_model_3 : Mo D := (mOp dIxD (mVar 2) (mVar 4))
def b_l_is_model : MS := (sSeq (sAsg (mFz (mCc lSortedL (mCons (mFz (mLc (mKeys (mVar 2)) (tgName 4) (mC true) le_l_is_model_1 [4])) mNil))) (tgName 3))
    (sSeq (sIf (mOr (mTest (mEqA ctab true eqTab (mPropP ctab ["Name"] m_Name_text (mPropP ctab ["Entry"] m_Entry_name (mVar 0))) (mVar 1))) (mOr (mTest (mEqA ctab true eqTab (mPropP ctab ["Entry"] m_Entry_words (mVar 0)) (mCb dTuple (mCons (mVar 3) mNil)))) (mTest (mEqA ctab true eqTab (mPropP ctab ["Entry"] m_Entry_name (mVar 0)) (mMakeP false "Name" m_Name___init 1 0 [0, 1] [D.str []] (mC (D.cls "Name")) (mCons (mVar 1) mNil) mNil))))) (sRet (mC (D.bl false))) sNext)
    (sRet (mEqA ctab false eqTab (mFz (mLc (mIter (mVar 3)) (tgName 4) (mC true) le_l_is_model_2 [4])) (mFz (mLc (mIter (mVar 3)) (tgName 4) (mC true) le_l_is_model_3 [4]))))))
def m_l_is_model : List D → Store → Rs D := fnK 3 2 b_l_is_model
theorem c_l_is_model (T : Tx K mg) : Cal P w K mg base 7 "_law_is_model" ["_law_entry", "_law_text_here", "_law_table"] (modSp K m_l_is_model) := by
  have C_Name___eq := c_Name___eq (P := P) (w := w) (base := base) T
  have C_Entry___eq := c_Entry___eq (P := P) (w := w) (base := base) T
  have C_Entry_name := c_Entry_name (P := P) (w := w) (base := base) T
  have C_Name___init := c_Name___init (P := P) (w := w) (base := base) T
  have C_Entry_words := c_Entry_words (P := P) (w := w) (base := base) T
  have C_Name_text := c_Name_text (P := P) (w := w) (base := base) T
  have C_Entry___getitem := c_Entry___getitem (P := P) (w := w) (base := base) T
  refine cal_K (body := b_l_is_model) (nl := 2) T.d_l_is_model sc_l_is_model rfl (fun _ _ _ _ _ _ us hl => match us, hl with | [_, _, _], _ => rfl) (fun f cdv A outer s H E hr => ⟨_, (pss_cons (ps_set (i := 3) sc_l_is_model.nd rfl (by first | exact Or.inl rfl | exact Or.inr rfl) (pe_callB (call_sortedL (K := K) (by rfl)) (by rfl) T.b_sorted (by decide +kernel) (pa_cons (pe_lkE (pe_lc (own := [("_law_word", 4)]) (by rfl) sc_l_is_model.nd (pi_keys (pv 2)) (blkOk_by (own := [("_law_word", 4)]) (N := N_l_is_model) (sc := defScope s_l_is_model) (by decide +kernel)) (fun _ _ _ _ _ => (pg_name (i := 4) sc_l_is_model.nd rfl (by first | exact Or.inl rfl | exact Or.inr rfl))) (fun _ _ _ _ _ => pts_nil) (fun _ _ _ _ _ => (pv 4)))) pa_nil)))
      (pss_cons (ps_if (PW.pt (pw_or (pt_cmpR (cm_NeA (K := K) (f_eq (P := P) (w := w) (K := K) (mg := mg) (base := base) T) (hr.mono (by decide))) (pe_propP (K := K) (E := fun _ => E0) (pe_propP (K := K) (E := fun _ => E0) (pv 0) C_Entry_name (hr.mono (by decide)) (bs_0 (n := 1) (ks := []) (js := [0]) (fun _ _ _ _ _ _ us ws h1 h2 => match us, ws, h1, h2 with | [_], [], _, _ => rfl))) C_Name_text (hr.mono (by decide)) (bs_0 (n := 1) (ks := []) (js := [0]) (fun _ _ _ _ _ _ us ws h1 h2 => match us, ws, h1, h2 with | [_], [], _, _ => rfl))) (pv 1) (nomark _)) (pw_or (pt_cmpR (cm_NeA (K := K) (f_eq (P := P) (w := w) (K := K) (mg := mg) (base := base) T) (hr.mono (by decide))) (pe_propP (K := K) (E := fun _ => E0) (pv 0) C_Entry_words (hr.mono (by decide)) (bs_0 (n := 1) (ks := []) (js := [0]) (fun _ _ _ _ _ _ us ws h1 h2 => match us, ws, h1, h2 with | [_], [], _, _ => rfl))) (pe_callTy (call_tupleA (K := K)) (by rfl) T.b_tuple (by decide +kernel) (pa_cons (pv 3) pa_nil)) (nomark _)) (pw_or1 (pt_cmpR (cm_NeA (K := K) (f_eq (P := P) (w := w) (K := K) (mg := mg) (base := base) T) (hr.mono (by decide))) (pe_propP (K := K) (E := fun _ => E0) (pv 0) C_Entry_name (hr.mono (by decide)) (bs_0 (n := 1) (ks := []) (js := [0]) (fun _ _ _ _ _ _ us ws h1 h2 => match us, ws, h1, h2 with | [_], [], _, _ => rfl))) (pe_makeP (E := WE W0) T.mk_Name C_Name___init (hr.mono (by decide)) (bs_D (n := 2) (ks := []) (js := [0, 1]) (fun z => nomatch z) (fun T _ _ _ _ _ _ us its ws h1 h2 h3 => match us, its, ws, h1, h2, h3 with | [_, _], [_], [], _, _, _ => ⟨_, rfl, rfl⟩)) passX0 (pe_globR (by rfl) T.k_Name) (pa_cons (pv 1) pa_nil) pk_nil) (nomark _)))))) (pss_one (ps_ret pe_bl)) pss_nil)
      (pss_one (ps_ret (pe_cmpR (cm_EqA (K := K) (f_eq (P := P) (w := w) (K := K) (mg := mg) (base := base) T) (hr.mono (by decide))) (pe_lc (own := [("_law_word", 4)]) (by rfl) sc_l_is_model.nd (pi_any (K := K) (pv 3)) (blkOk_by (own := [("_law_word", 4)]) (N := N_l_is_model) (sc := defScope s_l_is_model) (by decide +kernel)) (fun _ _ _ _ _ => (pg_name (i := 4) sc_l_is_model.nd rfl (by first | exact Or.inl rfl | exact Or.inr rfl))) (fun _ _ _ _ _ => pts_nil) (fun _ _ _ _ _ => (pe_ixI (K := K) (C := He.ga K "Entry") (CalF.rawN (n := 2) rfl (fun vs h => match vs, h with | [_, _], _ => rfl) C_Entry___getitem (bs_0 (fun _ _ _ _ _ _ us ws h1 h2 => match us, ws, h1, h2 with | [_, _], [], _, _ => rfl))) (hr.mono (by decide)) (pv 0) (pv 4) (fun _ _ => rfl)))) (pe_lc (own := [("_law_word", 4)]) (by rfl) sc_l_is_model.nd (pi_any (K := K) (pv 3)) (blkOk_by (own := [("_law_word", 4)]) (N := N_l_is_model) (sc := defScope s_l_is_model) (by decide +kernel)) (fun _ _ _ _ _ => (pg_name (i := 4) sc_l_is_model.nd rfl (by first | exact Or.inl rfl | exact Or.inr rfl))) (fun _ _ _ _ _ => pts_nil) (fun _ _ _ _ _ => (pe_ix (ix_anyD (K := K) (hu1 hr)) (pv 2) (pv 4) (fun _ _ => rfl)))) (nomark _)))))), ?_⟩)
  exact (t_seq (t_asg (d_fz (c_cb cc_sortedL (s_cons (d_fz (c_lcKeys (vs := [4]) (v_var 2) (g_name 4) (by decide) b_yes (d_var 4))) s_nil))) (g_name 3))
      (t_seq (t_if (b_or (b_test (d_neA T.G (o_eq T) (d_propP T.G T.p_Name_text (d_propP T.G T.p_Entry_name (d_var 0))) (d_var 1))) (b_or (b_test (d_neA T.G (o_eq T) (d_propP T.G T.p_Entry_words (d_var 0)) (d_cb cd_tuple (s_cons (d_var 3) s_nil)))) (b_test (d_neA T.G (o_eq T) (d_propP T.G T.p_Entry_name (d_var 0)) (d_makeY (fun A M H => show RepL K A M H [V.str ""] [D.str []] from ⟨_, _, rfl, congrArg V.str (by decide +kernel), rfl⟩) d_cls (s_cons (d_var 1) s_nil) s_nil))))) (t_ret d_bl) t_next)
      (t_ret (d_eqA T.G (o_eq T) (d_fz (c_lc (vs := [4]) (i_any (d_var 3)) (g_name 4) (by decide) b_yes (d_ixO (ct := ctab) T.it_Entry (d_var 0) (d_var 4)))) (d_fz (c_lc (vs := [4]) (i_any (d_var 3)) (g_name 4) (by decide) b_yes (d_op od_ixD (d_var 2) (d_var 4))))))))
end
end My
namespace My
open PySem PySem.Spec PyProof.Rows L2
section
variable {P : Program} [hP : OkP fileS P] {w : World} {K : PySem.W.Frag} {mg : Str → Option Value} {base : Heap}
abbrev N_l_changed : List Str := ["_law_m", "_law_entry", "_law_text_here", "_law_table", "_law_words_here", "_law_way", "_law_other", "_law_a", "_law_b", "_law_rows", "_law_model", "_law_handed", "_law_word"]
theorem sc_l_changed : FnScope N_l_changed ["_law_m", "_law_entry", "_law_text_here", "_law_table", "_law_words_here"] (defScope s_l_changed) := ⟨rfl, rfl, rfl, by decide +kernel, rfl, by decide +kernel, by decide +kernel⟩
def le_l_changed_1 : Mo D := (mTup (mCons (mVar 12) (mCons (mOp dIxD (mVar 10) (mVar 12)) mNil)))
def b_l_changed : MS := (sSeq (sAsg (mCall m_l_draw (mCons (mVar 0) (mCons (mC (D.int 6)) mNil))) (tgName 5))
    (sSeq (sIf (mTest (mOp dEq (mVar 5) (mC (D.int 0)))) (sSeq (sAsg (mCall m_l_text (mCons (mVar 0) mNil)) (tgName 6))
    (sSeq (sIf (mTest (mOp dEq (mCall m_l_draw (mCons (mVar 0) (mCons (mC (D.int 2)) mNil))) (mC (D.int 0)))) (sRet (mFz (mLst (mCons (mMethP ctab ["Entry"] "renamed" 0 1 m_Entry_renamed [0, 1] [] (mVar 1) mNil (mCons (mVar 6) mNil)) (mCons (mVar 6) (mCons (mVar 3) mNil)))))) sNext)
    (sRet (mFz (mLst (mCons (mMethP ctab ["Entry"] "renamed" 1 0 m_Entry_renamed [0, 1] [] (mVar 1) (mCons (mCall m_l_of (mCons (mVar 0) (mCons (mFz (mLst (mCons (mVar 6) (mCons (mMakeP false "Name" m_Name___init 1 0 [0, 1] [D.str []] (mC (D.cls "Name")) (mCons (mVar 6) mNil) mNil) mNil)))) mNil))) mNil) mNil) (mCons (mVar 6) (mCons (mVar 3) mNil)))))))) sNext)
    (sSeq (sPar 7 8 (mCons (mCall m_l_values (mCons (mVar 0) mNil)) (mCons (mCall m_l_values (mCons (mVar 0) mNil)) mNil)))
    (sSeq (sIf (mTest (mOp dEq (mVar 5) (mC (D.int 1)))) (sRet (mFz (mLst (mCons (mMethKw ctab ["Entry"] "with_values" 1 [[107, 105, 110, 100], [111, 117]] ["self"] m_Entry_with_values (mVar 1) mNil (mCons (mVar 7) (mCons (mVar 8) mNil))) (mCons (mVar 2) (mCons (mCall m_l_put (mCons (mVar 3) (mCons (mFz (mLst (mCons (mTup (mCons (mC (D.str [107, 105, 110, 100])) (mCons (mVar 7) mNil))) (mCons (mTup (mCons (mC (D.str [111, 117])) (mCons (mVar 8) mNil))) mNil)))) mNil))) mNil)))))) sNext)
    (sSeq (sIf (mTest (mOp dEq (mVar 5) (mC (D.int 2)))) (sRet (mFz (mLst (mCons (mMethKw ctab ["Entry"] "with_values" 1 [[111, 117]] ["self"] m_Entry_with_values (mVar 1) mNil (mCons (mVar 7) mNil)) (mCons (mVar 2) (mCons (mCall m_l_put (mCons (mVar 3) (mCons (mFz (mLst (mCons (mTup (mCons (mC (D.str [111, 117])) (mCons (mVar 7) mNil))) mNil))) mNil))) mNil)))))) sNext)
    (sSeq (sIf (mTest (mOp dEq (mVar 5) (mC (D.int 3)))) (sRet (mFz (mLst (mCons (mMethKw ctab ["Entry"] "with_values" 1 [] ["self"] m_Entry_with_values (mVar 1) mNil mNil) (mCons (mVar 2) (mCons (mVar 3) mNil)))))) sNext)
    (sSeq (sAsg (mFz (mLst (mCons (mTup (mCons (mCall m_l_of (mCons (mVar 0) (mCons (mVar 4) mNil))) (mCons (mVar 7) mNil))) (mCons (mTup (mCons (mCall m_l_of (mCons (mVar 0) (mCons (mOp dAdd (mVar 4) (mFz (mLst (mCons (mC (D.str [107, 105, 110, 100])) mNil)))) mNil))) (mCons (mVar 8) mNil))) mNil)))) (tgName 9))
    (sSeq (sAsg (mCall m_l_put (mCons (mVar 3) (mCons (mVar 9) mNil))) (tgName 10))
    (sSeq (sAsg (mFzD (mDictP (mFz (mLc (mRevI (mCons (mFz (mCc lListD (mCons (mVar 10) mNil))) mNil)) (tgName 12) (mC true) le_l_changed_1 [12])))) (tgName 11))
    (sRet (mFz (mLst (mCons (mMethCP "Entry" m_Entry_of (mC (D.cls "Entry")) (mCons (mPropP ctab ["Entry"] m_Entry_name (mVar 1)) (mCons (mVar 11) mNil))) (mCons (mVar 2) (mCons (mVar 10) mNil)))))))))))))))
def m_l_changed : List D → Store → Rs D := fnK 5 8 b_l_changed
theorem c_l_changed (T : Tx K mg) : Cal P w K mg base 12 "_law_changed" ["_law_m", "_law_entry", "_law_text_here", "_law_table", "_law_words_here"] (modSp K m_l_changed) := by
  have C_l_draw := c_l_draw (P := P) (w := w) (base := base) T
  have C_l_text := c_l_text (P := P) (w := w) (base := base) T
  have C_Entry_renamed := c_Entry_renamed (P := P) (w := w) (base := base) T
  have C_l_of := c_l_of (P := P) (w := w) (base := base) T
  have C_Name___init := c_Name___init (P := P) (w := w) (base := base) T
  have C_l_values := c_l_values (P := P) (w := w) (base := base) T
  have C_l_put := c_l_put (P := P) (w := w) (base := base) T
  have C_Entry_with_values := c_Entry_with_values (P := P) (w := w) (base := base) T
  have C_Entry_of := c_Entry_of (P := P) (w := w) (base := base) T
  have C_Entry_name := c_Entry_name (P := P) (w := w) (base := base) T
  refine cal_K (body := b_l_changed) (nl := 8) T.d_l_changed sc_l_changed rfl (fun _ _ _ _ _ _ us hl => match us, hl with | [_, _, _, _, _], _ => rfl) (fun f cdv A outer s H E hr => ⟨_, (pss_cons (ps_set (i := 5) sc_l_changed.nd rfl (by first | exact Or.inl rfl | exact Or.inr rfl) (pe_callC C_l_draw (hr.mono (by decide)) (by rfl) (pa_cons (pv 0) (pa_cons pe_int pa_nil))))
      (pss_cons (ps_if (pt_cmpR (cm_Eq (K := K) hr.units) (pv 5) pe_int (nomark _)) (pss_cons (ps_set (i := 6) sc_l_changed.nd rfl (by first | exact Or.inl rfl | exact Or.inr rfl) (pe_callC C_l_text (hr.mono (by decide)) (by rfl) (pa_cons (pv 0) pa_nil)))
      (pss_cons (ps_if (pt_cmpR (cm_Eq (K := K) hr.units) (pe_callC C_l_draw (hr.mono (by decide)) (by rfl) (pa_cons (pv 0) (pa_cons pe_int pa_nil))) pe_int (nomark _)) (pss_one (ps_ret (pe_lst (pa_cons (pe_methP (K := K) (E := WE W0) (pv 1) C_Entry_renamed (hr.mono (by decide)) (bs_0 (n := 1) (ks := ["name"]) (js := [0, 1]) (fun _ _ _ _ _ _ us ws h1 h2 => match us, ws, h1, h2 with | [_], [_], _, _ => rfl)) passX0 pa_nil (pk_cons (pv 6) pk_nil)) (pa_cons (pv 6) (pa_cons (pv 3) pa_nil)))))) pss_nil)
      (pss_one (ps_ret (pe_lst (pa_cons (pe_methP (K := K) (E := WE W0) (pv 1) C_Entry_renamed (hr.mono (by decide)) (bs_0 (n := 2) (ks := []) (js := [0, 1]) (fun _ _ _ _ _ _ us ws h1 h2 => match us, ws, h1, h2 with | [_, _], [], _, _ => rfl)) passX0 (pa_cons (pe_callC C_l_of (hr.mono (by decide)) (by rfl) (pa_cons (pv 0) (pa_cons (pe_lst (pa_cons (pv 6) (pa_cons (pe_makeP (E := WE W0) T.mk_Name C_Name___init (hr.mono (by decide)) (bs_D (n := 2) (ks := []) (js := [0, 1]) (fun z => nomatch z) (fun T _ _ _ _ _ _ us its ws h1 h2 h3 => match us, its, ws, h1, h2, h3 with | [_, _], [_], [], _, _, _ => ⟨_, rfl, rfl⟩)) passX0 (pe_globR (by rfl) T.k_Name) (pa_cons (pv 6) pa_nil) pk_nil) pa_nil))) pa_nil))) pa_nil) pk_nil) (pa_cons (pv 6) (pa_cons (pv 3) pa_nil)))))))) pss_nil)
      (pss_cons (ps_par (i := 7) (j := 8) (by rfl) sc_l_changed.nd rfl rfl (by decide) rfl rfl (pa_cons (pe_callC C_l_values (hr.mono (by decide)) (by rfl) (pa_cons (pv 0) pa_nil)) (pa_cons (pe_callC C_l_values (hr.mono (by decide)) (by rfl) (pa_cons (pv 0) pa_nil)) pa_nil)) (by rfl))
      (pss_cons (ps_if (pt_cmpR (cm_Eq (K := K) hr.units) (pv 5) pe_int (nomark _)) (pss_one (ps_ret (pe_lst (pa_cons (pe_methKw (K := K) (E := WE W0) (ks := ["kind", "ou"]) (kc := [[107, 105, 110, 100], [111, 117]]) (pv 1) C_Entry_with_values (hr.mono (by decide)) passX0 pa_nil (pk_cons (pv 7) (pk_cons (pv 8) pk_nil)) (by decide +kernel)) (pa_cons (pv 2) (pa_cons (pe_callC C_l_put (hr.mono (by decide)) (by rfl) (pa_cons (pv 3) (pa_cons (pe_lst (pa_cons (pe_tup (pa_cons pe_str (pa_cons (pv 7) pa_nil))) (pa_cons (pe_tup (pa_cons pe_str (pa_cons (pv 8) pa_nil))) pa_nil))) pa_nil))) pa_nil)))))) pss_nil)
      (pss_cons (ps_if (pt_cmpR (cm_Eq (K := K) hr.units) (pv 5) pe_int (nomark _)) (pss_one (ps_ret (pe_lst (pa_cons (pe_methKw (K := K) (E := WE W0) (ks := ["ou"]) (kc := [[111, 117]]) (pv 1) C_Entry_with_values (hr.mono (by decide)) passX0 pa_nil (pk_cons (pv 7) pk_nil) (by decide +kernel)) (pa_cons (pv 2) (pa_cons (pe_callC C_l_put (hr.mono (by decide)) (by rfl) (pa_cons (pv 3) (pa_cons (pe_lst (pa_cons (pe_tup (pa_cons pe_str (pa_cons (pv 7) pa_nil))) pa_nil)) pa_nil))) pa_nil)))))) pss_nil)
      (pss_cons (ps_if (pt_cmpR (cm_Eq (K := K) hr.units) (pv 5) pe_int (nomark _)) (pss_one (ps_ret (pe_lst (pa_cons (pe_methKw (K := K) (E := WE W0) (ks := []) (kc := []) (pv 1) C_Entry_with_values (hr.mono (by decide)) passX0 pa_nil pk_nil (by decide +kernel)) (pa_cons (pv 2) (pa_cons (pv 3) pa_nil)))))) pss_nil)
      (pss_cons (ps_set (i := 9) sc_l_changed.nd rfl (by first | exact Or.inl rfl | exact Or.inr rfl) (pe_lst (pa_cons (pe_tup (pa_cons (pe_callC C_l_of (hr.mono (by decide)) (by rfl) (pa_cons (pv 0) (pa_cons (pv 4) pa_nil))) (pa_cons (pv 7) pa_nil))) (pa_cons (pe_tup (pa_cons (pe_callC C_l_of (hr.mono (by decide)) (by rfl) (pa_cons (pv 0) (pa_cons (pe_op (op_Add (K := K)) (pv 4) (pe_lst (pa_cons pe_str pa_nil))) pa_nil))) (pa_cons (pv 8) pa_nil))) pa_nil))))
      (pss_cons (ps_set (i := 10) sc_l_changed.nd rfl (by first | exact Or.inl rfl | exact Or.inr rfl) (pe_callC C_l_put (hr.mono (by decide)) (by rfl) (pa_cons (pv 3) (pa_cons (pv 9) pa_nil))))
      (pss_cons (ps_set (i := 11) sc_l_changed.nd rfl (by first | exact Or.inl rfl | exact Or.inr rfl) (pe_callTy (call_dictPK (K := K) rfl) (by rfl) T.b_dict (by decide +kernel) (pa_cons (pe_lc (own := [("_law_word", 12)]) (by rfl) sc_l_changed.nd (pi_revK (K := K) (by rfl) T.b_reversed (pa_cons (pe_callTy (call_listW (K := K) rfl) (by rfl) T.b_list (by decide +kernel) (pa_cons (pv 10) pa_nil)) pa_nil)) (blkOk_by (own := [("_law_word", 12)]) (N := N_l_changed) (sc := defScope s_l_changed) (by decide +kernel)) (fun _ _ _ _ _ => (pg_name (i := 12) sc_l_changed.nd rfl (by first | exact Or.inl rfl | exact Or.inr rfl))) (fun _ _ _ _ _ => pts_nil) (fun _ _ _ _ _ => (pe_tup (pa_cons (pv 12) (pa_cons (pe_ix (ix_anyD (K := K) (hu1 hr)) (pv 10) (pv 12) (fun _ _ => rfl)) pa_nil))))) pa_nil)))
      (pss_one (ps_ret (pe_lst (pa_cons (ClX.pe_cmeth (E := E0) (pe_globR (by rfl) T.k_Entry) T.cm_Entry_of.rd T.cm_Entry_of.mt (CalF.rawN (n := 3) rfl (fun vs h => match vs, h with | [_, _, _], _ => rfl) C_Entry_of (bs_0 (fun _ _ _ _ _ _ us ws h1 h2 => match us, ws, h1, h2 with | [_, _, _], [], _, _ => rfl))) (hr.mono (by decide)) passC0 (pa_cons (pe_propP (K := K) (E := fun _ => E0) (pv 1) C_Entry_name (hr.mono (by decide)) (bs_0 (n := 1) (ks := []) (js := [0]) (fun _ _ _ _ _ _ us ws h1 h2 => match us, ws, h1, h2 with | [_], [], _, _ => rfl))) (pa_cons (pv 11) pa_nil))) (pa_cons (pv 2) (pa_cons (pv 10) pa_nil))))))))))))))), ?_⟩)
  exact (t_seq (t_asg (d_call (s_cons (d_var 0) (s_cons d_int s_nil))) (g_name 5))
      (t_seq (t_if (b_test (d_op od_eq (d_var 5) d_int)) (t_seq (t_asg (d_call (s_cons (d_var 0) s_nil)) (g_name 6))
      (t_seq (t_if (b_test (d_op od_eq (d_call (s_cons (d_var 0) (s_cons d_int s_nil))) d_int)) (t_ret (d_fz (c_lst (s_cons (d_methX T.G T.mt_Entry_renamed (fun A M H => show RepL K A M H [] [] from rfl) (d_var 1) s_nil (s_cons (d_var 6) s_nil)) (s_cons (d_var 6) (s_cons (d_var 3) s_nil)))))) t_next)
      (t_ret (d_fz (c_lst (s_cons (d_methX T.G T.mt_Entry_renamed (fun A M H => show RepL K A M H [] [] from rfl) (d_var 1) (s_cons (d_call (s_cons (d_var 0) (s_cons (d_fz (c_lst (s_cons (d_var 6) (s_cons (d_makeY (fun A M H => show RepL K A M H [V.str ""] [D.str []] from ⟨_, _, rfl, congrArg V.str (by decide +kernel), rfl⟩) d_cls (s_cons (d_var 6) s_nil) s_nil) s_nil)))) s_nil))) s_nil) s_nil) (s_cons (d_var 6) (s_cons (d_var 3) s_nil)))))))) t_next)
      (t_seq (t_par (s_cons (d_call (s_cons (d_var 0) s_nil)) (s_cons (d_call (s_cons (d_var 0) s_nil)) s_nil)))
      (t_seq (t_if (b_test (d_op od_eq (d_var 5) d_int)) (t_ret (d_fz (c_lst (s_cons (x_methKw T.G T.mt_Entry_with_values (d_var 1) s_nil (s_cons (d_var 7) (s_cons (d_var 8) s_nil))).ok (s_cons (d_var 2) (s_cons (d_call (s_cons (d_var 3) (s_cons (d_fz (c_lst (s_cons (d_tup (s_cons (d_str [107, 105, 110, 100] (by decide +kernel)) (s_cons (d_var 7) s_nil))) (s_cons (d_tup (s_cons (d_str [111, 117] (by decide +kernel)) (s_cons (d_var 8) s_nil))) s_nil)))) s_nil))) s_nil)))))) t_next)
      (t_seq (t_if (b_test (d_op od_eq (d_var 5) d_int)) (t_ret (d_fz (c_lst (s_cons (x_methKw T.G T.mt_Entry_with_values (d_var 1) s_nil (s_cons (d_var 7) s_nil)).ok (s_cons (d_var 2) (s_cons (d_call (s_cons (d_var 3) (s_cons (d_fz (c_lst (s_cons (d_tup (s_cons (d_str [111, 117] (by decide +kernel)) (s_cons (d_var 7) s_nil))) s_nil))) s_nil))) s_nil)))))) t_next)
      (t_seq (t_if (b_test (d_op od_eq (d_var 5) d_int)) (t_ret (d_fz (c_lst (s_cons (x_methKw T.G T.mt_Entry_with_values (d_var 1) s_nil s_nil).ok (s_cons (d_var 2) (s_cons (d_var 3) s_nil)))))) t_next)
      (t_seq (t_asg (d_fz (c_lst (s_cons (d_tup (s_cons (d_call (s_cons (d_var 0) (s_cons (d_var 4) s_nil))) (s_cons (d_var 7) s_nil))) (s_cons (d_tup (s_cons (d_call (s_cons (d_var 0) (s_cons (d_op od_add (d_var 4) (d_fz (c_lst (s_cons (d_str [107, 105, 110, 100] (by decide +kernel)) s_nil)))) s_nil))) (s_cons (d_var 8) s_nil))) s_nil)))) (g_name 9))
      (t_seq (t_asg (d_call (s_cons (d_var 3) (s_cons (d_var 9) s_nil))) (g_name 10))
      (t_seq (t_asg (d_fzD (k_dictP (d_fz (c_lc (vs := [12]) (i_rev (s_cons (d_fz (c_cb cc_listD (s_cons (d_var 10) s_nil))) s_nil)) (g_name 12) (by decide) b_yes (d_tup (s_cons (d_var 12) (s_cons (d_op od_ixD (d_var 10) (d_var 12)) s_nil))))))) (g_name 11))
      (t_ret (d_fz (c_lst (s_cons (d_methCPX d_cls (s_cons (d_propP T.G T.p_Entry_name (d_var 1)) (s_cons (d_var 11) s_nil))) (s_cons (d_var 2) (s_cons (d_var 10) s_nil)))))))))))))))
end
end My
namespace My
open PySem PySem.Spec PyProof.Rows L2
section
variable {P : Program} [hP : OkP fileS P] {w : World} {K : PySem.W.Frag} {mg : Str → Option Value} {base : Heap}
abbrev N_l_refused : List Str := ["_law_entry", "_law_told", "error"]
theorem sc_l_refused : FnScope N_l_refused ["_law_entry"] (defScope s_l_refused) := ⟨rfl, rfl, rfl, by decide +kernel, rfl, by decide +kernel, by decide +kernel⟩
def lb_l_refused_1 : MS := (sDropX (mAppX (mVar 1) (mMethKw ctab ["Entry"] "with_values" 1 [[107, 105, 110, 100], [111, 117]] ["self"] m_Entry_with_values (mVar 0) mNil (mCons (mTup (mCons (mC (D.str [97])) mNil)) (mCons (mC (D.str [97])) mNil)))))
def lb_l_refused_2 : MS := (sDrop (mApp (mVar 1) (mXfld ecs efs "given" (mVar 2))))
def lb_l_refused_3 : MS := (sDropX (mAppX (mVar 1) (mMethX ctab ["Entry"] "renamed" 1 0 m_Entry_renamed [0, 1] [] (mVar 0) (mCons (mC (D.str [67, 110, 61, 97])) mNil) mNil)))
def lb_l_refused_4 : MS := (sDrop (mApp (mVar 1) (mXfld ecs efs "given" (mVar 2))))
def b_l_refused : MS := (sSeq (sAsg (mCell (mLst mNil)) (tgName 1))
    (sSeq (sTryAs ecs "BadEntry" 2 lb_l_refused_1 lb_l_refused_2)
    (sSeq (sTryAs ecs "BadName" 2 lb_l_refused_3 lb_l_refused_4)
    (sRet (mOp dEq (mVar 1) (mFz (mLst (mCons (mC (D.str [111, 117])) (mCons (mC (D.str [67, 110, 61, 97])) mNil)))))))))
def m_l_refused : List D → Store → Rs D := fnD 1 2 b_l_refused
theorem c_l_refused (T : Tx K mg) : Cal P w K mg base 12 "_law_refused" ["_law_entry"] (modSp K m_l_refused) := by
  have C_Entry_with_values := c_Entry_with_values (P := P) (w := w) (base := base) T
  have C_Entry_renamed := c_Entry_renamed (P := P) (w := w) (base := base) T
  refine cal_D (body := b_l_refused) (nl := 2) T.d_l_refused sc_l_refused rfl (fun _ _ _ _ _ _ us hl => match us, hl with | [_], _ => rfl) (fun f cdv A outer s H E hr => ⟨_, (pss_cons (ps_set (i := 1) sc_l_refused.nd rfl (by first | exact Or.inl rfl | exact Or.inr rfl) (pe_lst pa_nil))
      (pss_cons (ps_try_keep (i := 2) rfl rfl rfl sc_l_refused.nd rfl rfl ⟨by rfl, by decide, .inl T.k_BadEntry⟩ (fun W pn xe tk po => (pss_one (ps_expr (pe_bmK (K := K) PySem.F.plainAttrs_list PySem.F.slot_list_append PySem.F.type_list_append mt_append (pv 1) (pa_cons (pe_methKw (K := K) (E := WE W) (ks := ["kind", "ou"]) (kc := [[107, 105, 110, 100], [111, 117]]) (pv 0) C_Entry_with_values (hr.mono (by decide)) (fun σ => L2.passAt tk σ) pa_nil (pk_cons (pe_tup (pa_cons pe_str pa_nil)) (pk_cons pe_str pk_nil)) (by decide +kernel)) pa_nil))))) (fun a pn => (pss_one (ps_expr (pe_bmK (K := K) PySem.F.plainAttrs_list PySem.F.slot_list_append PySem.F.type_list_append mt_append (pv 1) (pa_cons (pe_xfld (K := K) (pv 2)) pa_nil))))))
      (pss_cons (ps_try_keep (i := 2) rfl rfl rfl sc_l_refused.nd rfl rfl ⟨by rfl, by decide, .inl T.k_BadName⟩ (fun W pn xe tk po => (pss_one (ps_expr (pe_bmK (K := K) PySem.F.plainAttrs_list PySem.F.slot_list_append PySem.F.type_list_append mt_append (pv 1) (pa_cons (pe_methP (K := K) (E := WE W) (pv 0) C_Entry_renamed (hr.mono (by decide)) (bs_0 (n := 2) (ks := []) (js := [0, 1]) (fun _ _ _ _ _ _ us ws h1 h2 => match us, ws, h1, h2 with | [_, _], [], _, _ => rfl)) (fun σ => L2.passAt tk σ) (pa_cons pe_str pa_nil) pk_nil) pa_nil))))) (fun a pn => (pss_one (ps_expr (pe_bmK (K := K) PySem.F.plainAttrs_list PySem.F.slot_list_append PySem.F.type_list_append mt_append (pv 1) (pa_cons (pe_xfld (K := K) (pv 2)) pa_nil))))))
      (pss_one (ps_ret (pe_cmpR (cm_Eq (K := K) hr.units) (pv 1) (pe_lst (pa_cons pe_str (pa_cons pe_str pa_nil))) (nomark _))))))), ?_⟩)
  exact (t_seq (t_asg (d_cell (c_lst s_nil)) (g_name 1))
      (t_seq (t_tryAs T.Ec (fun W => (t_dropX (x_appX (d_var 1) (x_methKw T.G T.mt_Entry_with_values (d_var 0) s_nil (s_cons (d_tup (s_cons (d_str [97] (by decide +kernel)) s_nil)) (s_cons (d_str [97] (by decide +kernel)) s_nil)))))) (t_drop (d_app (d_var 1) (d_xfld T.Er (d_var 2)))))
      (t_seq (t_tryAs T.Ec (fun W => (t_dropX (x_appX (d_var 1) (x_methX T.G T.mt_Entry_renamed (fun A M H => show RepL K A M H [] [] from rfl) (d_var 0) (s_cons (d_str [67, 110, 61, 97] (by decide +kernel)) s_nil) s_nil)))) (t_drop (d_app (d_var 1) (d_xfld T.Er (d_var 2)))))
      (t_ret (d_op od_eq (d_var 1) (d_fz (c_lst (s_cons (d_str [111, 117] (by decide +kernel)) (s_cons (d_str [67, 110, 61, 97] (by decide +kernel)) s_nil)))))))))
end
end My
namespace My
open PySem PySem.Spec PyProof.Rows L2
section
variable {K : PySem.W.Frag} {X : Cx} {tr : List D → En → Option En} {gs : TGs} {js : List Nat} {n : Nat}
theorem pg_lstK {ts : List Expr} {k : Nat} {tg : TGs} {pos : Pos} (hc : X.calm = true) (h : PGs X ts tg)
    (hK : X.K = K := by rfl) (hn : (assignEach ts X.env).length = n := by rfl) (hst : (assignEach ts X.env).findIdx? (·.1) = none := by rfl) : PG X (.Tuple ts k pos) (gLst K n tg) := hK ▸ pg_lst hc h hn hst
def tgL (n : Nat) (f : List D → En → Option En) : Tg := fun d env => match d with
  | .lst ds => if ds.length = n then f ds env else none
  | _ => none
theorem g_lst (h : GDs K gs js tr) : GD K (gLst K n gs) js (tgL n tr) := fun A M H v d σ env env' en r e => by
  cases d <;> try cases e
  rename_i ds
  unfold tgL at e
  dsimp only at e
  split at e
  · rename_i hl
    obtain ⟨p, vs, rfl, hs, r⟩ := r
    obtain ⟨σ1, en1, w1, q1⟩ := h A M H vs ds σ env env' en r e
    exact ⟨σ1, en1, w1, fun Q q => ⟨p, vs, rfl, hs.sq, by rw [r.len]; exact hl, q1 Q q⟩⟩
  · cases e
end
end My
namespace My
open PySem PySem.Spec PyProof.Rows L2
section
variable {P : Program} [hP : OkP fileS P] {w : World} {K : PySem.W.Frag} {mg : Str → Option Value} {base : Heap}
abbrev N_law : List Str := ["_law_script", "_law_m", "_law_turn", "_law_words_here", "_law_text_here", "_law_table", "_law_word", "_law_rows", "_law_step", "_law_last", "_law_entry", "_law_text_so", "_law_model", "_law_other", "_law_text_there", "_law_model_there", "_law_due", "_law_odd"]
theorem sc_law : FnScope N_law ["_law_script"] (defScope s_law) := ⟨rfl, rfl, rfl, by decide +kernel, rfl, by decide +kernel, by decide +kernel⟩
def le_law_1 : Mo D := (mTup (mCons (mVar 6) (mCons (mCall m_l_values (mCons (mVar 1) mNil)) mNil)))
def lb_law_2 : MS := (sSeq (sAsg (mCall m_l_of (mCons (mVar 1) (mCons (mVar 7) mNil))) (tgName 9))
    (sSeq (sDrop (mApp (mVar 7) (mCall m_l_changed (mCons (mVar 1) (mCons (mOp dIxD (mVar 9) (mC (D.int 0))) (mCons (mOp dIxD (mVar 9) (mC (D.int 1))) (mCons (mOp dIxD (mVar 9) (mC (D.int 2))) (mCons (mVar 3) mNil))))))))
    (sIf (mNot (mTest (mCall m_l_refused (mCons (mOp dIxD (mVar 9) (mC (D.int 0))) mNil)))) (sRet (mC (D.bl false))) sNext)))
def lb_law_3 : MS := (sSeq (sAsg (mAndV (mEqA ctab false eqTab (mVar 11) (mVar 14)) (mOp dEqK (mVar 12) (mVar 15))) (tgName 16))
    (sIf (mOr (mTest (mEqA ctab true eqTab (mEqA ctab false eqTab (mVar 10) (mVar 13)) (mVar 16))) (mOr (mTest (mEqA ctab false eqTab (mEqA ctab true eqTab (mVar 10) (mVar 13)) (mVar 16))) (mTest (mEqA ctab true eqTab (mEqA ctab false eqTab (mVar 13) (mMethCP "Entry" m_Entry_of (mC (D.cls "Entry")) (mCons (mVar 11) (mCons (mVar 12) mNil)))) (mVar 16))))) (sRet (mC (D.bl false))) sNext))
def lb_law_4 : MS := (sIf (mOr (mTest (mEqI ctab false eqTab (mVar 10) (mVar 17))) (mNot (mTest (mEqI ctab true eqTab (mVar 10) (mVar 17))))) (sRet (mC (D.bl false))) sNext)
def lb_law_5 : MS := (sSeq (sIf (mOr (mNot (mTest (mCall m_l_is_model (mCons (mVar 10) (mCons (mVar 11) (mCons (mVar 12) mNil)))))) (mNot (mTest (mCall m_l_is_model (mCons (mMethCP "Entry" m_Entry_of (mC (D.cls "Entry")) (mCons (mVar 11) (mCons (mVar 12) mNil))) (mCons (mVar 11) (mCons (mVar 12) mNil))))))) (sRet (mC (D.bl false))) sNext)
    (sSeq (sFor (mIter (mVar 7)) (tgL 3 (tgCons (tgName 13) (tgCons (tgName 14) (tgCons (tgName 15) tgNil)))) lb_law_3)
    (sFor (mIter (mTup (mCons (mC D.non) (mCons (mVar 11) (mCons (mVar 12) (mCons (mMakeP false "Name" m_Name___init 1 0 [0, 1] [D.str []] (mC (D.cls "Name")) (mCons (mVar 11) mNil) mNil) (mCons (mTup (mCons (mVar 11) (mCons (mVar 12) mNil))) (mCons (mC (D.int 5)) mNil)))))))) (tgName 17) lb_law_4)))
def lb_law_6 : MS := (sSeq (sPar 3 4 (mCons (mCall m_l_words (mCons (mVar 1) (mCons (mC (D.int 5)) mNil))) (mCons (mCall m_l_text (mCons (mVar 1) mNil)) mNil)))
    (sSeq (sAsg (mCall m_l_put (mCons (mFzD (mC ([], []))) (mCons (mFz (mLc (mIter (mSl dSlV (mVar 3) mNoP (mPart (mCall m_l_draw (mCons (mVar 1) (mCons (mC (D.int 6)) mNil)))))) (tgName 6) (mC true) le_law_1 [6])) mNil))) (tgName 5))
    (sSeq (sAsg (mCell (mLst (mCons (mFz (mLst (mCons (mMethCP "Entry" m_Entry_of (mC (D.cls "Entry")) (mCons (mVar 4) (mCons (mVar 5) mNil))) (mCons (mVar 4) (mCons (mVar 5) mNil))))) mNil))) (tgName 7))
    (sSeq (sFor (mRange1 (mCons (mOp dAdd (mC (D.int 3)) (mCall m_l_draw (mCons (mVar 1) (mCons (mC (D.int 7)) mNil)))) mNil)) (tgName 8) lb_law_2)
    (sFor (mIter (mVar 7)) (tgL 3 (tgCons (tgName 10) (tgCons (tgName 11) (tgCons (tgName 12) tgNil)))) lb_law_5)))))
def b_law : MS := (sSeq (sAsg (mFzD (mDisp (((mC (D.str [99, 101, 108, 108, 115])), (mFz (mCc lList (mCons (mVar 0) mNil)))) :: ((mC (D.str [115, 112, 111, 116])), (mCell (mLst (mCons (mC (D.int 0)) mNil)))) :: []))) (tgName 1))
    (sSeq (sFor (mRange1 (mCons (mC (D.int 4)) mNil)) (tgName 2) (sBlk lb_law_6))
    (sRet (mC (D.bl true)))))
theorem c_law (T : Tx K mg) {f : Addr} {fd : FuncData} (F : FunD K "law" "law" (defArgs s_law) (defBody s_law) (defScope s_law) [] [] f fd) (hm : ∀ ns : List Int, ns.length ≤ 63 → ∃ μ', b_law (some (.wl (ns.map D.int)) :: List.replicate 17 none) [] = .rt (.bl true) μ') : FnOk P w K mg base CX0 13 f fd ["_law_script"] (sp_lawM K) := by
  have C_l_text := c_l_text (P := P) (w := w) (base := base) T
  have C_l_words := c_l_words (P := P) (w := w) (base := base) T
  have C_l_put := c_l_put (P := P) (w := w) (base := base) T
  have C_l_draw := c_l_draw (P := P) (w := w) (base := base) T
  have C_l_values := c_l_values (P := P) (w := w) (base := base) T
  have C_Entry_of := c_Entry_of (P := P) (w := w) (base := base) T
  have C_l_of := c_l_of (P := P) (w := w) (base := base) T
  have C_l_changed := c_l_changed (P := P) (w := w) (base := base) T
  have C_l_refused := c_l_refused (P := P) (w := w) (base := base) T
  have C_l_is_model := c_l_is_model (P := P) (w := w) (base := base) T
  have C_Name___eq := c_Name___eq (P := P) (w := w) (base := base) T
  have C_Entry___eq := c_Entry___eq (P := P) (w := w) (base := base) T
  have C_Name___init := c_Name___init (P := P) (w := w) (base := base) T
  refine law_M F sc_law rfl (fun cdv A outer s H E hr => ⟨_, (pss_cons (ps_set (i := 1) sc_law.nd rfl (by first | exact Or.inl rfl | exact Or.inr rfl) (pe_disp (pps_cons pe_str (pe_callTy (call_listA (K := K)) (by rfl) T.b_list (by decide +kernel) (pa_cons (pv 0) pa_nil)) (pps_cons pe_str (pe_lst (pa_cons pe_int pa_nil)) pps_nil)) rfl rfl (by simp) (by decide)))
      (pss_cons (ps_for PassesOwn.never rfl (pi_range1 (by rfl) T.b_range (pa_cons pe_int pa_nil)) (pg_name (i := 2) sc_law.nd rfl (by first | exact Or.inl rfl | exact Or.inr rfl))
      (pss_cons (ps_par (i := 3) (j := 4) (by rfl) sc_law.nd rfl rfl (by decide) rfl rfl (pa_cons (pe_callC C_l_words (hr.mono (by decide)) (by rfl) (pa_cons (pv 1) (pa_cons pe_int pa_nil))) (pa_cons (pe_callC C_l_text (hr.mono (by decide)) (by rfl) (pa_cons (pv 1) pa_nil)) pa_nil)) (by rfl))
      (pss_cons (ps_set (i := 5) sc_law.nd rfl (by first | exact Or.inl rfl | exact Or.inr rfl) (pe_callC C_l_put (hr.mono (by decide)) (by rfl) (pa_cons pe_dnewK (pa_cons (pe_lc (own := [("_law_word", 6)]) (by rfl) sc_law.nd (pi_any (K := K) (pe_slice (sl_all (K := K)) (pv 3) po_none (po_some (pe_callC C_l_draw (hr.mono (by decide)) (by rfl) (pa_cons (pv 1) (pa_cons pe_int pa_nil)))))) (blkOk_by (own := [("_law_word", 6)]) (N := N_law) (sc := defScope s_law) (by decide +kernel)) (fun _ _ _ _ _ => (pg_name (i := 6) sc_law.nd rfl (by first | exact Or.inl rfl | exact Or.inr rfl))) (fun _ _ _ _ _ => pts_nil) (fun _ _ _ _ _ => (pe_tup (pa_cons (pv 6) (pa_cons (pe_callC C_l_values (hr.mono (by decide)) (by rfl) (pa_cons (pv 1) pa_nil)) pa_nil))))) pa_nil))))
      (pss_cons (ps_set (i := 7) sc_law.nd rfl (by first | exact Or.inl rfl | exact Or.inr rfl) (pe_lst (pa_cons (pe_lst (pa_cons (ClX.pe_cmeth (E := E0) (pe_globR (by rfl) T.k_Entry) T.cm_Entry_of.rd T.cm_Entry_of.mt (CalF.rawN (n := 3) rfl (fun vs h => match vs, h with | [_, _, _], _ => rfl) C_Entry_of (bs_0 (fun _ _ _ _ _ _ us ws h1 h2 => match us, ws, h1, h2 with | [_, _, _], [], _, _ => rfl))) (hr.mono (by decide)) passC0 (pa_cons (pv 4) (pa_cons (pv 5) pa_nil))) (pa_cons (pv 4) (pa_cons (pv 5) pa_nil)))) pa_nil)))
      (pss_cons (ps_for PassesOwn.never rfl (pi_range1 (by rfl) T.b_range (pa_cons (pe_op (op_Add (K := K)) pe_int (pe_callC C_l_draw (hr.mono (by decide)) (by rfl) (pa_cons (pv 1) (pa_cons pe_int pa_nil)))) pa_nil)) (pg_name (i := 8) sc_law.nd rfl (by first | exact Or.inl rfl | exact Or.inr rfl))
      (pss_cons (ps_set (i := 9) sc_law.nd rfl (by first | exact Or.inl rfl | exact Or.inr rfl) (pe_callC C_l_of (hr.mono (by decide)) (by rfl) (pa_cons (pv 1) (pa_cons (pv 7) pa_nil))))
      (pss_cons (ps_expr (pe_bmK (K := K) PySem.F.plainAttrs_list PySem.F.slot_list_append PySem.F.type_list_append mt_append (pv 7) (pa_cons (pe_callC C_l_changed (hr.mono (by decide)) (by rfl) (pa_cons (pv 1) (pa_cons (pe_ix (ix_anyD (K := K) (hu1 hr)) (pv 9) pe_int (fun _ _ => rfl)) (pa_cons (pe_ix (ix_anyD (K := K) (hu1 hr)) (pv 9) pe_int (fun _ _ => rfl)) (pa_cons (pe_ix (ix_anyD (K := K) (hu1 hr)) (pv 9) pe_int (fun _ _ => rfl)) (pa_cons (pv 3) pa_nil)))))) pa_nil)))
      (pss_one (ps_if (pt_not (pt_val (pe_callC C_l_refused (hr.mono (by decide)) (by rfl) (pa_cons (pe_ix (ix_anyD (K := K) (hu1 hr)) (pv 9) pe_int (fun _ _ => rfl)) pa_nil)))) (pss_one (ps_ret pe_bl)) pss_nil)))))
      (pss_one (ps_for PassesOwn.never rfl (pi_any (K := K) (pv 7)) (pg_lstK (K := K) (n := 3) rfl (pgs_cons (pg_name (i := 10) sc_law.nd rfl (by first | exact Or.inl rfl | exact Or.inr rfl)) (pgs_cons (pg_name (i := 11) sc_law.nd rfl (by first | exact Or.inl rfl | exact Or.inr rfl)) (pgs_cons (pg_name (i := 12) sc_law.nd rfl (by first | exact Or.inl rfl | exact Or.inr rfl)) pgs_nil))))
      (pss_cons (ps_if (PW.pt (pw_or (pt_not (pt_val (pe_callC C_l_is_model (hr.mono (by decide)) (by rfl) (pa_cons (pv 10) (pa_cons (pv 11) (pa_cons (pv 12) pa_nil)))))) (pw_or1 (pt_not (pt_val (pe_callC C_l_is_model (hr.mono (by decide)) (by rfl) (pa_cons (ClX.pe_cmeth (E := E0) (pe_globR (by rfl) T.k_Entry) T.cm_Entry_of.rd T.cm_Entry_of.mt (CalF.rawN (n := 3) rfl (fun vs h => match vs, h with | [_, _, _], _ => rfl) C_Entry_of (bs_0 (fun _ _ _ _ _ _ us ws h1 h2 => match us, ws, h1, h2 with | [_, _, _], [], _, _ => rfl))) (hr.mono (by decide)) passC0 (pa_cons (pv 11) (pa_cons (pv 12) pa_nil))) (pa_cons (pv 11) (pa_cons (pv 12) pa_nil))))))))) (pss_one (ps_ret pe_bl)) pss_nil)
      (pss_cons (ps_for PassesOwn.never rfl (pi_any (K := K) (pv 7)) (pg_lstK (K := K) (n := 3) rfl (pgs_cons (pg_name (i := 13) sc_law.nd rfl (by first | exact Or.inl rfl | exact Or.inr rfl)) (pgs_cons (pg_name (i := 14) sc_law.nd rfl (by first | exact Or.inl rfl | exact Or.inr rfl)) (pgs_cons (pg_name (i := 15) sc_law.nd rfl (by first | exact Or.inl rfl | exact Or.inr rfl)) pgs_nil))))
      (pss_cons (ps_set (i := 16) sc_law.nd rfl (by first | exact Or.inl rfl | exact Or.inr rfl) (pe_and (pe_cmpR (cm_EqA (K := K) (f_eq (P := P) (w := w) (K := K) (mg := mg) (base := base) T) (hr.mono (by decide))) (pv 11) (pv 14) (nomark _)) (pe_one (pe_cmpR (cm_EqK (K := K) (hu65 hr)) (pv 12) (pv 15) (nomark _)))))
      (pss_one (ps_if (PW.pt (pw_or (pt_cmpR (cm_NeA (K := K) (f_eq (P := P) (w := w) (K := K) (mg := mg) (base := base) T) (hr.mono (by decide))) (pe_cmpR (cm_EqA (K := K) (f_eq (P := P) (w := w) (K := K) (mg := mg) (base := base) T) (hr.mono (by decide))) (pv 10) (pv 13) (nomark _)) (pv 16) (nomark _)) (pw_or (pt_cmpR (cm_EqA (K := K) (f_eq (P := P) (w := w) (K := K) (mg := mg) (base := base) T) (hr.mono (by decide))) (pe_cmpR (cm_NeA (K := K) (f_eq (P := P) (w := w) (K := K) (mg := mg) (base := base) T) (hr.mono (by decide))) (pv 10) (pv 13) (nomark _)) (pv 16) (nomark _)) (pw_or1 (pt_cmpR (cm_NeA (K := K) (f_eq (P := P) (w := w) (K := K) (mg := mg) (base := base) T) (hr.mono (by decide))) (pe_cmpR (cm_EqA (K := K) (f_eq (P := P) (w := w) (K := K) (mg := mg) (base := base) T) (hr.mono (by decide))) (pv 13) (ClX.pe_cmeth (E := E0) (pe_globR (by rfl) T.k_Entry) T.cm_Entry_of.rd T.cm_Entry_of.mt (CalF.rawN (n := 3) rfl (fun vs h => match vs, h with | [_, _, _], _ => rfl) C_Entry_of (bs_0 (fun _ _ _ _ _ _ us ws h1 h2 => match us, ws, h1, h2 with | [_, _, _], [], _, _ => rfl))) (hr.mono (by decide)) passC0 (pa_cons (pv 11) (pa_cons (pv 12) pa_nil))) (nomark _)) (pv 16) (nomark _)))))) (pss_one (ps_ret pe_bl)) pss_nil))))
      (pss_one (ps_for PassesOwn.never rfl (pi_any (K := K) (pe_tup (pa_cons pe_non (pa_cons (pv 11) (pa_cons (pv 12) (pa_cons (pe_makeP (E := WE W0) T.mk_Name C_Name___init (hr.mono (by decide)) (bs_D (n := 2) (ks := []) (js := [0, 1]) (fun z => nomatch z) (fun T _ _ _ _ _ _ us its ws h1 h2 h3 => match us, its, ws, h1, h2, h3 with | [_, _], [_], [], _, _, _ => ⟨_, rfl, rfl⟩)) passX0 (pe_globR (by rfl) T.k_Name) (pa_cons (pv 11) pa_nil) pk_nil) (pa_cons (pe_tup (pa_cons (pv 11) (pa_cons (pv 12) pa_nil))) (pa_cons pe_int pa_nil)))))))) (pg_name (i := 17) sc_law.nd rfl (by first | exact Or.inl rfl | exact Or.inr rfl))
      (pss_one (ps_if (PW.pt (pw_or (pt_cmpR (cm_EqI (K := K) (f_eq (P := P) (w := w) (K := K) (mg := mg) (base := base) T) (hr.mono (by decide))) (pv 10) (pv 17) (nomark _)) (pw_or1 (pt_not (pt_cmpR (cm_NeI (K := K) (f_eq (P := P) (w := w) (K := K) (mg := mg) (base := base) T) (hr.mono (by decide))) (pv 10) (pv 17) (nomark _)))))) (pss_one (ps_ret pe_bl)) pss_nil)))))))))))))
      (pss_one (ps_ret pe_bl)))), ?_⟩) hm
  exact (t_seq (t_asg (d_fzD (k_disp (p2_cons (d_str [99, 101, 108, 108, 115] (by decide +kernel)) (d_fz (c_cb cc_list (s_cons (d_var 0) s_nil))) (p2_cons (d_str [115, 112, 111, 116] (by decide +kernel)) (d_cell (c_lst (s_cons d_int s_nil))) p2_nil)))) (g_name 1))
      (t_seq (t_for (i_range1 (s_cons d_int s_nil)) (g_name 2) (t_blk (t_seq (t_par (s_cons (d_call (s_cons (d_var 1) (s_cons d_int s_nil))) (s_cons (d_call (s_cons (d_var 1) s_nil)) s_nil)))
      (t_seq (t_asg (d_call (s_cons (d_fzD k_new) (s_cons (d_fz (c_lc (vs := [6]) (i_any (d_sl sd_all (d_var 3) o_none (o_some (d_call (s_cons (d_var 1) (s_cons d_int s_nil)))))) (g_name 6) (by decide) b_yes (d_tup (s_cons (d_var 6) (s_cons (d_call (s_cons (d_var 1) s_nil)) s_nil))))) s_nil))) (g_name 5))
      (t_seq (t_asg (d_cell (c_lst (s_cons (d_fz (c_lst (s_cons (d_methCPX d_cls (s_cons (d_var 4) (s_cons (d_var 5) s_nil))) (s_cons (d_var 4) (s_cons (d_var 5) s_nil))))) s_nil))) (g_name 7))
      (t_seq (t_for (i_range1 (s_cons (d_op od_add d_int (d_call (s_cons (d_var 1) (s_cons d_int s_nil)))) s_nil)) (g_name 8) (t_seq (t_asg (d_call (s_cons (d_var 1) (s_cons (d_var 7) s_nil))) (g_name 9))
      (t_seq (t_drop (d_app (d_var 7) (d_call (s_cons (d_var 1) (s_cons (d_op od_ixD (d_var 9) d_int) (s_cons (d_op od_ixD (d_var 9) d_int) (s_cons (d_op od_ixD (d_var 9) d_int) (s_cons (d_var 3) s_nil))))))))
      (t_if (b_not (b_B (d_call (s_cons (d_op od_ixD (d_var 9) d_int) s_nil)))) (t_ret d_bl) t_next))))
      (t_for (i_any (d_var 7)) (g_lst (g_cons (g_name 10) (g_cons (g_name 11) (g_cons (g_name 12) g_nil)))) (t_seq (t_if (b_or (b_not (b_B (d_call (s_cons (d_var 10) (s_cons (d_var 11) (s_cons (d_var 12) s_nil)))))) (b_not (b_B (d_call (s_cons (d_methCPX d_cls (s_cons (d_var 11) (s_cons (d_var 12) s_nil))) (s_cons (d_var 11) (s_cons (d_var 12) s_nil))))))) (t_ret d_bl) t_next)
      (t_seq (t_for (i_any (d_var 7)) (g_lst (g_cons (g_name 13) (g_cons (g_name 14) (g_cons (g_name 15) g_nil)))) (t_seq (t_asg (d_andV (d_eqA T.G (o_eq T) (d_var 11) (d_var 14)) (d_op od_eqK (d_var 12) (d_var 15))) (g_name 16))
      (t_if (b_or (b_test (d_neA T.G (o_eq T) (d_eqA T.G (o_eq T) (d_var 10) (d_var 13)) (d_var 16))) (b_or (b_test (d_eqA T.G (o_eq T) (d_neA T.G (o_eq T) (d_var 10) (d_var 13)) (d_var 16))) (b_test (d_neA T.G (o_eq T) (d_eqA T.G (o_eq T) (d_var 13) (d_methCPX d_cls (s_cons (d_var 11) (s_cons (d_var 12) s_nil)))) (d_var 16))))) (t_ret d_bl) t_next)))
      (t_for (i_any (d_tup (s_cons d_non (s_cons (d_var 11) (s_cons (d_var 12) (s_cons (d_makeY (fun A M H => show RepL K A M H [V.str ""] [D.str []] from ⟨_, _, rfl, congrArg V.str (by decide +kernel), rfl⟩) d_cls (s_cons (d_var 11) s_nil) s_nil) (s_cons (d_tup (s_cons (d_var 11) (s_cons (d_var 12) s_nil))) (s_cons d_int s_nil)))))))) (g_name 17) (t_if (b_or (b_test (d_eqI T.G (o_eq T) (d_var 10) (d_var 17))) (b_not (b_test (d_neI T.G (o_eq T) (d_var 10) (d_var 17))))) (t_ret d_bl) t_next)))))))))))
      (t_ret d_bl)))
end
end My
namespace My
open PySem PySem.Spec PyProof.Rows L2
section
variable {P : Program} [hP : OkP fileS P] {w : World} {K : PySem.W.Frag} {mg : Str → Option Value} {base : Heap}
theorem fnK_of {np nl : Nat} {b : MS} {ds : List D} {μ μ' : Store} {d : D} {E : En} (hl : ds.length = np) (hE : ds.map some ++ List.replicate nl none = E) (h : b E μ = .rt d μ') : fnK np nl b ds μ = .ok d μ' := by
  unfold fnK
  rw [if_pos hl, hE, h]
end
end My
namespace My
open PySem PySem.Spec PyProof.Rows L2
section
variable {P : Program} [hP : OkP fileS P] {w : World} {K : PySem.W.Frag} {mg : Str → Option Value} {base : Heap}
theorem rng_of {μ μ' : Store} {m : Mo (List D)} {env : En} {n : Nat} (hn : n ≤ 1000) (h : m env μ = .ok [.int (n : Int)] μ') : mRange1 m env μ = .ok (rngL 0 n, none) μ' := by
  have hg : (-1000000 : Int) ≤ (n : Int) ∧ (n : Int) ≤ 1000000 := by omega
  simp only [mRange1, h, Rs.bind]
  rw [if_pos hg, Int.toNat_natCast]
theorem rngN_len (n : Nat) : (rngL 0 n).length = n := by simp [rngL]
theorem seq_nx {a b : MS} {env env1 : En} {μ μ1 : Store} (h : a env μ = .nx env1 μ1) : sSeq a b env μ = b env1 μ1 := by
  unfold sSeq
  rw [h]
end
end My
namespace My
open PySem PySem.Spec PyProof.Rows L2
section
variable {P : Program} [hP : OkP fileS P] {w : World} {K : PySem.W.Frag} {mg : Str → Option Value} {base : Heap}
section
variable {a b : Mo D} {env : En} {μ ν : Store} {d : D}
theorem sif_n {t : Mo Bool} {a : MS} (h : t env μ = .ok false ν) : sIf t a sNext env μ = .nx env ν := by
  unfold sIf
  rw [h]
  rfl
theorem cons_ok {as : Mo (List D)} {x : D} {xs : List D} (h : a env μ = .ok x μ) (h2 : as env μ = .ok xs μ) : mCons a as env μ = .ok (x :: xs) μ := by
  unfold mCons
  simp only [h, h2, Rs.bind]
end
end
end My
namespace My
open PySem PySem.Spec PyProof.Rows L2
section
variable {P : Program} [hP : OkP fileS P] {w : World} {K : PySem.W.Frag} {mg : Str → Option Value} {base : Heap}
def asc (l : Codes) : Prop := l.all (· < 128) = true
def dS (l : Codes) : PyData := .str (SX.S l)
theorem toDataL_strs : ∀ xs : List Codes, toDataL (xs.map D.str) = some (xs.map dS)
  | [] => rfl
  | x :: xs => by
    rw [List.map_cons]
    unfold toDataL
    rw [toDataL_strs xs]
    rfl
theorem eqv_dS {a b : Codes} : PyData.eqv (dS a) (dS b) = decide (a = b) := by
  unfold dS
  simp only [PyData.eqv]
  by_cases h : a = b
  · subst h; simp
  · rw [decide_eq_false h]
    apply beq_eq_false_iff_ne.mpr
    intro z
    apply h
    have := congrArg (fun x : Str => x.cps.toList) z
    simpa [SX.S] using this
theorem depth_dS : ∀ xs : List Codes, PyData.depthAll (xs.map dS) = 0
  | [] => by simp [PyData.depthAll]
  | x :: xs => by
    rw [List.map_cons]
    simp [PyData.depthAll, depth_dS xs, dS, PyData.depth]
theorem strOk_asc {l : Codes} (h : asc l) : PyData.strOk (SX.S l) = true := by
  unfold asc at h
  rw [List.all_eq_true] at h
  unfold PyData.strOk
  have : ∀ c ∈ l, decide (c < 0x110000) = true := fun c hc => by
    have := of_decide_eq_true (h c hc)
    exact decide_eq_true (by omega)
  simpa [SX.S] using this
theorem canLay_strs : ∀ {xs : List Codes}, (∀ x ∈ xs, asc x) → PyData.canLayAll0 (xs.map dS) = true
  | [], _ => by simp [PyData.canLayAll0]
  | x :: xs, h => by
    rw [List.map_cons]
    simp only [PyData.canLayAll0, canLay_strs fun y hy => h y (List.mem_cons_of_mem _ hy), Bool.and_true]
    simp only [dS, PyData.canLay0]
    exact strOk_asc (h x List.mem_cons_self)
theorem shaped_strs {xs : List Codes} (h : ∀ x ∈ xs, asc x) : SeqAt.shaped (.tuple (xs.map dS)) = true := by
  unfold SeqAt.shaped
  simp [PyData.canLay0, canLay_strs h, depth_dS, PyData.depth]
theorem eqvAll_dS : ∀ xs ys : List Codes, PyData.eqvAll (xs.map dS) (ys.map dS) = decide (xs = ys)
  | [], [] => by simp [PyData.eqvAll]
  | [], y :: ys => by simp [PyData.eqvAll]
  | x :: xs, [] => by simp [PyData.eqvAll]
  | x :: xs, y :: ys => by
    rw [List.map_cons, List.map_cons, PySem.W.eqv_all_cons, eqv_dS, eqvAll_dS xs ys]
    by_cases h : x = y <;> by_cases h2 : xs = ys <;> simp [h, h2]
theorem toDataS_tup {μ : Store} (xs : List Codes) : toDataS μ (.tup (xs.map D.str)) = some (.tuple (xs.map dS)) := by show (toDataL _).map _ = _; rw [toDataL_strs]; rfl
theorem bEq_tups {μ : Store} {xs ys : List Codes} (hx : ∀ x ∈ xs, asc x) (hy : ∀ x ∈ ys, asc x) : bEq μ (.tup (xs.map D.str)) (.tup (ys.map D.str)) = some (decide (xs = ys)) := by
  simp only [bEq, toDataS_tup, if_pos (show SeqAt.shaped (.tuple (xs.map dS)) = true ∧ SeqAt.shaped (.tuple (ys.map dS)) = true from ⟨shaped_strs hx, shaped_strs hy⟩), PyData.eqv, eqvAll_dS]
theorem cut_take {xs : List D} {n : Nat} : cutD xs none (some (n : Int)) = xs.take n := by
  unfold cutD
  simp only [HT.sIx, List.drop_zero, Nat.sub_zero]
  have h : ¬ ((n : Int) < 0) := by omega
  rw [if_neg h, Int.toNat_natCast]
  by_cases h2 : n ≤ xs.length
  · rw [Nat.min_eq_left h2]
  · rw [Nat.min_eq_right (by omega), List.take_of_length_le (Nat.le_refl _), List.take_of_length_le (by omega)]
theorem asc_of {l : Codes} (h : ∀ c ∈ l, c < 128) : asc l := List.all_eq_true.mpr fun c hc => decide_eq_true (h c hc)
end
end My
namespace My
open PySem PySem.Spec PyProof.Rows L2
section
variable {P : Program} [hP : OkP fileS P] {w : World} {K : PySem.W.Frag} {mg : Str → Option Value} {base : Heap}
def isW (w : Codes) : Bool := decide (1 ≤ w.length ∧ w.length ≤ 12) && ((w.all fun c => decide (97 ≤ c ∧ c ≤ 122)) && !decide (w = [115, 101, 108, 102]))
def isP (v : Codes) : Bool := decide (v.length ≤ 64) && v.all fun c => decide ((32 ≤ c ∧ c ≤ 126) ∧ c ≠ 37)
def isV (v : Codes) : Bool := decide (1 ≤ v.length) && isP v
theorem isW_iff {w : Codes} : isW w = true ↔ (1 ≤ w.length ∧ w.length ≤ 12) ∧ (∀ c ∈ w, 97 ≤ c ∧ c ≤ 122) ∧ w ≠ [115, 101, 108, 102] := by
  simp [isW, List.all_eq_true, and_assoc]
theorem isP_iff {v : Codes} : isP v = true ↔ v.length ≤ 64 ∧ ∀ c ∈ v, (32 ≤ c ∧ c ≤ 126) ∧ c ≠ 37 := by
  simp [isP, List.all_eq_true]
theorem isV_iff {v : Codes} : isV v = true ↔ 1 ≤ v.length ∧ isP v = true := by
  simp [isV]
theorem lc_map {α : Type} {it : Mo (List D × Gd)} {tg : Tg} {t : Mo Bool} {e : Mo D} {vs : List Nat} {env : En} {μ : Store} (f g : α → D) {as : List α} (hi : it env μ = .ok (as.map f, none) μ) (hl : as.length ≤ 50000)
    (hs : ∀ a ∈ as, ∃ env1, tg (f a) (wipeE env vs) = some env1 ∧ t env1 μ = .ok true μ ∧ e env1 μ = .ok (g a) μ) : mLc it tg t e vs env μ = .ok (as.map g) μ := by
  unfold mLc
  rw [hi]
  show (if (as.map f).length ≤ 50000 then _ else _) = _
  rw [if_pos (by rw [List.length_map]; exact hl)]
  exact lcGo_mapM f g as hs
def abcL : Codes := [97, 98, 99, 100, 101, 102, 103, 104, 105, 106, 107, 108, 109, 110, 111, 112, 113, 114, 115, 116, 117, 118, 119, 120, 121, 122]
theorem mem_abc {c : Nat} (h : 97 ≤ c ∧ c ≤ 122) : c ∈ abcL := by
  have e : ((List.range 26).all fun k => abcL.contains (97 + k)) = true := by decide
  have := List.all_eq_true.mp e (c - 97) (by rw [List.mem_range]; omega)
  rw [show 97 + (c - 97) = c by omega] at this
  simpa using this
theorem all_true {α : Type} (l : List α) (μ : Store) : dAll μ [.lst (l.map fun _ => D.bl true)] = some (.bl true) := by
  have e : (l.map fun _ => D.bl true) = (l.map fun _ => true).map D.bl := by rw [List.map_map]; rfl
  unfold dAll
  rw [e]
  show (match asS μ (.lst ((l.map fun _ => true).map D.bl)) with | some xs => (blsOf xs).map fun bs : List Bool => D.bl (bs.all id) | none => none) = _
  show (blsOf ((l.map fun _ => true).map D.bl)).map (fun bs : List Bool => D.bl (bs.all id)) = _
  rw [blsOf_map]
  show some (D.bl ((l.map fun _ => true).all id)) = _
  rw [show ((l.map fun _ => true).all id) = true from List.all_eq_true.mpr fun x hx => by
    obtain ⟨_, _, rfl⟩ := List.mem_map.mp hx
    rfl]
theorem p_is_word {w : Codes} {μ : Store} (h : isW w = true) : m_is_word [.str w] μ = .ok (.bl true) μ := by
  obtain ⟨⟨h1, h2⟩, h3, h4⟩ := isW_iff.mp h
  have i1 : dIsiC ctab μ [.str w, .ty "str"] = some (.bl true) := rfl
  have lc : mLc (mIter (mVar 0)) (tgName 1) (mC true) le_is_word_1 [1] [some (.str w), none] μ = .ok (w.map fun _ => .bl true) μ := by
    refine lc_map (fun c : Nat => .str [c]) (fun _ => .bl true) (as := w) rfl (by omega) fun c hc => ⟨[some (.str w), some (.str [c])], rfl, rfl, ?_⟩
    show mOp dInD (mVar 1) (mC (.str abcL)) [some (.str w), some (.str [c])] μ = _
    have : dInD μ (.str [c]) (.str abcL) = some (.bl true) := by
      show some (D.bl (decide (c ∈ abcL))) = _
      rw [decide_eq_true (mem_abc (h3 c hc))]
    simp only [mOp, mVar, mC, Rs.bind, Rs.of, List.getElem?_cons_zero, List.getElem?_cons_succ, this]
  have g1 : (1 : Int) ≤ (w.length : Int) := by omega
  have g2 : (w.length : Int) ≤ 12 := by omega
  have nl : dLen μ [.str w] = some (.int (w.length : Int)) := by
    unfold dLen
    dsimp only
    first | rfl | rw [if_pos (by omega)]
  unfold m_is_word b_is_word
  simp only [fnK, mOp, mVar, mC, mCons, mNil, mTest, mNot, mOr, mCb, mChain, mFz, sSeq, sIf, sRet, sNext, Rs.bind, Rs.of, lc, i1, nl, dLe, dEq, bEq, decide_eq_true g1, decide_eq_true g2, decide_eq_false h4, all_true, Option.map_some,
    List.length_cons, List.length_nil, List.map_cons, List.map_nil, List.replicate, List.cons_append, List.nil_append, List.append_nil, List.getElem?_cons_zero, List.getElem?_cons_succ, Nat.reduceAdd, if_true, if_false, Bool.false_eq_true, Bool.not_true, Bool.not_false, reduceIte]
theorem isV_ne {v : Codes} (h : isV v = true) : v ≠ [] ∧ 10 ∉ v := by
  obtain ⟨h1, h2⟩ := isV_iff.mp h
  refine ⟨fun z => by rw [z] at h1; exact absurd h1 (by decide), fun z => ?_⟩
  have := ((isP_iff.mp h2).2 10 z).1.1
  omega
theorem p_is_value {v : Codes} {μ : Store} (h : isV v = true) : m_is_value [.str v] μ = .ok (.bl true) μ := by
  obtain ⟨h1, h2⟩ := isV_ne h
  have i1 : dIsiC ctab μ [.str v, .ty "str"] = some (.bl true) := rfl
  have i2 : dNiD μ (.str [10]) (.str v) = some (.bl true) := by
    show some (D.bl (!decide (10 ∈ v))) = _
    rw [decide_eq_false h2]
    rfl
  unfold m_is_value b_is_value
  simp only [fnK, mOp, mVar, mC, mCons, mNil, mAndV, mCb, sRet, Rs.bind, Rs.of, i1, i2, dNe, bEq, decide_eq_false h1, Option.map_some,
    List.length_cons, List.length_nil, List.map_cons, List.map_nil, List.replicate, List.cons_append, List.nil_append, List.append_nil, List.getElem?_cons_zero, List.getElem?_cons_succ, Nat.reduceAdd, if_true, if_false, Bool.false_eq_true, Bool.not_true, Bool.not_false, reduceIte]
theorem sum_map_le {α : Type} {f : α → Nat} {k : Nat} : ∀ {l : List α}, (∀ a ∈ l, f a ≤ k) → (l.map f).sum ≤ k * l.length
  | [], _ => by simp
  | a :: l, h => by
    have h1 := h a (.head _)
    have h2 := sum_map_le fun b hb => h b (.tail _ hb)
    simp only [List.map_cons, List.sum_cons, List.length_cons]
    rw [Nat.mul_add, Nat.mul_one]
    omega
theorem join_ok {μ : Store} {s : Codes} {ls : List Codes} (h : (ls.map (·.length)).sum + ls.length * s.length ≤ 1000000) : dJoin μ (.str s) [.lst (ls.map D.str)] = some (.str (TL.joinL s ls)) := by
  unfold dJoin
  dsimp only
  rw [show asQ μ (.lst (ls.map D.str)) = some (ls.map D.str) from rfl]
  dsimp only
  rw [strsOf_map]
  exact if_pos h
section
variable {μ ν : Store} {env : En}
theorem seq_rt {a b : MS} {d : D} (h : a env μ = .rt d ν) : sSeq a b env μ = .rt d ν := by
  unfold sSeq
  rw [h]
theorem sif_t {t : Mo Bool} {a b : MS} (h : t env μ = .ok true ν) : sIf t a b env μ = a env ν := by
  unfold sIf
  rw [h]
  rfl
end
end
end My
namespace My
open PySem PySem.Spec PyProof.Rows L2
section
variable {P : Program} [hP : OkP fileS P] {w : World} {K : PySem.W.Frag} {mg : Str → Option Value} {base : Heap}
theorem getK_none {w : Codes} : ∀ {ks : List Codes} {xs : List D}, w ∉ ks → getK (keysM ks) xs (.inr (SX.S w)) = none
  | [], _, _ => by simp [keysM, getK]
  | k :: ks, [], _ => by simp [keysM, getK]
  | k :: ks, x :: xs, h => by
    show (if (Sum.inr (SX.S k) : Key) = .inr (SX.S w) then some x else getK (keysM ks) xs (.inr (SX.S w))) = none
    rw [if_neg fun z => h (by rw [SX.S_inj (Sum.inr.inj z)]; exact .head _)]
    exact getK_none fun z => h (.tail _ z)
theorem getK_some {w : Codes} {d : D} : ∀ {ks : List Codes} {xs : List D} {i : Nat}, ks.Nodup → ks[i]? = some w → xs[i]? = some d → getK (keysM ks) xs (.inr (SX.S w)) = some d
  | [], _, _, _, h, _ => by simp at h
  | k :: ks, [], _, _, _, h => by simp at h
  | k :: ks, x :: xs, 0, _, h1, h2 => by
    simp only [List.getElem?_cons_zero, Option.some.injEq] at h1 h2
    show (if (Sum.inr (SX.S k) : Key) = .inr (SX.S w) then some x else getK (keysM ks) xs (.inr (SX.S w))) = some d
    rw [if_pos (by rw [h1]), h2]
  | k :: ks, x :: xs, i + 1, hn, h1, h2 => by
    simp only [List.getElem?_cons_succ] at h1 h2
    have hn := List.nodup_cons.mp hn
    show (if (Sum.inr (SX.S k) : Key) = .inr (SX.S w) then some x else getK (keysM ks) xs (.inr (SX.S w))) = some d
    rw [if_neg fun z => hn.1 (by rw [SX.S_inj (Sum.inr.inj z)]; exact List.mem_of_getElem? h1)]
    exact getK_some hn.2 h1 h2
theorem hasK_none {w : Codes} {ks : List Codes} (h : w ∉ ks) : hasK (keysM ks) (.inr (SX.S w)) = false := by
  refine Bool.eq_false_iff.mpr fun z => h ?_
  obtain ⟨k, hk, e⟩ := List.mem_map.mp (hasK_mem.mp z)
  rw [← SX.S_inj (Sum.inr.inj e)]
  exact hk
theorem putK_new {w : Codes} {ks : List Codes} {xs : List D} {d : D} (h : w ∉ ks) : putKD (ks.map D.str) xs (.str w) d = some ((ks ++ [w]).map D.str, xs ++ [d]) := by
  unfold putKD
  rw [keys_inr]
  show (if hasK (keysM ks) (.inr (SX.S w)) = true then some (ks.map D.str, setK (keysM ks) xs (.inr (SX.S w)) d) else some (ks.map D.str ++ [.str w], xs ++ [d])) = _
  rw [hasK_none h, if_neg (by decide), List.map_append]
  rfl
section
variable {μ : Store} {j i : Nat} {ks : List Codes} {xs : List D} {w : Codes} {d : D}
theorem dkv_dic : dkv μ (.dic false (ks.map D.str) xs) = some (keysM ks, xs) := by
  unfold dkv
  simp only [keys_inr, Option.map_some]
theorem ix_some {x : D} (h : dkv μ x = some (keysM ks, xs)) (hn : ks.Nodup) (h1 : ks[i]? = some w) (h2 : xs[i]? = some d) : dIxD μ x (.str w) = some d := by
  unfold dIxD
  rw [h]
  exact getK_some hn h1 h2
end
abbrev kKind : Codes := [107, 105, 110, 100]
abbrev kRef : Codes := [114, 101, 102]
abbrev kDup : Codes := [100, 117, 112]
abbrev kReferral : Codes := [114, 101, 102, 101, 114, 114, 97, 108]
/-- a word for an attribute or a class -/
structure Wd (w : Codes) : Prop where
  ok : isW w = true
  k1 : w ≠ kKind
  k2 : w ≠ kRef
  k3 : w ≠ kDup
  k4 : w ≠ kReferral
end
end My
namespace My
open PySem PySem.Spec PyProof.Rows L2
section
variable {P : Program} [hP : OkP fileS P] {w : World} {K : PySem.W.Frag} {mg : Str → Option Value} {base : Heap}
abbrev Tb := List (Codes × List Codes)
abbrev tupS (l : List Codes) : D := .tup (l.map D.str)
def dE (T : Tb) : D := .dic false (T.map fun p => D.str p.1) (T.map fun p => tupS p.2)
structure TbOk (T : Tb) : Prop where
  nd : (T.map (·.1)).Nodup
  wd : ∀ p ∈ T, isW p.1 = true
  vl : ∀ p ∈ T, ∀ v ∈ p.2, isV v = true
  ln : T.length < 64
  sz : ∀ p ∈ T, p.2.length ≤ 1000
/-- the values of a word -/
def valsT (T : Tb) (w : Codes) : List Codes := match T with
  | [] => []
  | p :: T => if p.1 = w then p.2 else valsT T w
section
variable {μ : Store} {w : Codes} {T : Tb} {env : En} {o : Mo D}
theorem dkv_dE : dkv μ (dE T) = some (keysM (T.map (·.1)), T.map fun p => tupS p.2) := by
  have e : (T.map fun p => D.str p.1) = (T.map (·.1)).map D.str := by rw [List.map_map]; rfl
  unfold dE
  rw [e]
  exact dkv_dic
theorem valsT_not : ∀ {T : Tb}, w ∉ T.map (·.1) → valsT T w = []
  | [], _ => rfl
  | p :: T, h => by
    unfold valsT
    rw [if_neg fun z => h (by rw [← z]; exact .head _)]
    exact valsT_not fun z => h (.tail _ z)
theorem valsT_mem : ∀ {T : Tb} {p : Codes × List Codes}, (T.map (·.1)).Nodup → p ∈ T → valsT T p.1 = p.2
  | q :: T, p, hn, h => by
    unfold valsT
    rcases List.mem_cons.mp h with rfl | h
    · rw [if_pos rfl]
    · have hn := List.nodup_cons.mp hn
      rw [if_neg fun z => hn.1 (List.mem_map.mpr ⟨p, h, z.symm⟩)]
      exact valsT_mem hn.2 h
theorem ix_T (hn : (T.map (·.1)).Nodup) (hw : w ∈ T.map (·.1)) : dIxD μ (dE T) (.str w) = some (tupS (valsT T w)) := by
  obtain ⟨p, hp, rfl⟩ := List.mem_map.mp hw
  obtain ⟨i, hi⟩ := List.getElem?_of_mem hp
  rw [valsT_mem hn hp]
  exact ix_some dkv_dE hn (i := i) (by rw [List.getElem?_map, hi]; rfl) (by rw [List.getElem?_map, hi]; rfl)
theorem get_T (hn : (T.map (·.1)).Nodup) : (getK (keysM (T.map (·.1))) (T.map fun p => tupS p.2) (.inr (SX.S w))).getD (.tup []) = tupS (valsT T w) := by
  by_cases hw : w ∈ T.map (·.1)
  · obtain ⟨p, hp, rfl⟩ := List.mem_map.mp hw
    obtain ⟨i, hi⟩ := List.getElem?_of_mem hp
    rw [getK_some hn (i := i) (d := tupS p.2) (by rw [List.getElem?_map, hi]; rfl) (by rw [List.getElem?_map, hi]; rfl), valsT_mem hn hp]
    rfl
  · rw [getK_none hw, valsT_not hw]
    rfl
/-- ascending, without the empty ones -/
def srtE (T : Tb) : Tb := ((sortT (T.map (·.1))).filter fun w => !decide (valsT T w = [])).map fun w => (w, valsT T w)
theorem srtE_keys : (srtE T).map (·.1) = (sortT (T.map (·.1))).filter fun w => !decide (valsT T w = []) := by
  unfold srtE
  rw [List.map_map]
  exact List.map_id _
end
end
end My
namespace My
open PySem PySem.Spec PyProof.Rows L2
section
variable {P : Program} [hP : OkP fileS P] {w : World} {K : PySem.W.Frag} {mg : Str → Option Value} {base : Heap}
section
variable {μ ν N : Store} {env : En} {o : Mo D} {d p : D} {a b : Nat}
theorem cons_of {x : Store} {n : Nat} (h : x.length = n + 1) : ∃ c y, x = c :: y ∧ y.length = n := by
  match x, h with
  | c :: y, h => exact ⟨c, y, rfl, by simpa using h⟩
theorem fz_of {m : Mo (List D)} {env : En} {ν : Store} {ds : List D} (h : m env μ = .ok ds ν) : mFz m env μ = .ok (.lst ds) ν := by
  unfold mFz
  rw [h]
  rfl
theorem fz_ok {as : Mo (List D)} {ds : List D} (h : as env μ = .ok ds μ) (hl : ds.length ≤ 100000 := by simp) : mFz (mLst as) env μ = .ok (.lst ds) μ := by
  unfold mFz mLst
  rw [h]
  show (Rs.bind (if ds.length ≤ 100000 then Rs.ok ds μ else Rs.no) fun ds μ1 => Rs.ok (D.lst ds) μ1) = _
  rw [if_pos hl]
  rfl
theorem nil_ok : mNil env μ = .ok ([] : List D) μ := rfl
theorem lastT {c : Cell} : (N ++ [c])[N.length]? = some c := List.getElem?_concat_length
theorem setT {c c' : Cell} : (N ++ [c]).set N.length c' = N ++ [c'] := by
  rw [List.set_append_right _ _ (Nat.le_refl _), Nat.sub_self]
  rfl
theorem cellT {L : List D} : cellOf (N ++ [.lst L]) N.length = some L := by
  unfold cellOf
  rw [lastT]
theorem cb_one {f : Store → List D → Option D} {m : Mo D} {x r : D} (h : m env μ = .ok x μ) (e : f μ [x] = some r) : mCb f (mCons m mNil) env μ = .ok r μ := by
  unfold mCb
  rw [cons_ok h nil_ok]
  simp only [Rs.bind, Rs.of, e]
theorem op_two {f : Store → D → D → Option D} {m1 m2 : Mo D} {x y r : D} (h : m1 env μ = .ok x μ) (h2 : m2 env μ = .ok y μ) (e : f μ x y = some r) : mOp f m1 m2 env μ = .ok r μ := by
  unfold mOp
  simp only [h, h2, Rs.bind, Rs.of, e]
theorem test_of {m : Mo D} {b : Bool} (h : m env μ = .ok (.bl b) μ) : mTest m env μ = .ok b μ := by
  unfold mTest
  rw [h]
  rfl
end
end
end My
namespace My
open PySem PySem.Spec PyProof.Rows L2
section
variable {P : Program} [hP : OkP fileS P] {w : World} {K : PySem.W.Frag} {mg : Str → Option Value} {base : Heap}
abbrev kCells : Codes := [99, 101, 108, 108, 115]
abbrev kSpot : Codes := [115, 112, 111, 116]
def dmD (cs : List Int) (j : Nat) : D := .dic false [.str kCells, .str kSpot] [.lst (cs.map D.int), .ref j]
section
variable {μ μ' μ1 ν : Store} {i j n m : Nat}
theorem Ds.less (h : Ds μ j n) (hm : m ≤ n) : Ds μ j m := by
  obtain ⟨k, h, h1, h2⟩ := h
  exact ⟨k, h, h1, by omega⟩
theorem Dz.ds (h : Dz μ j n μ') : Ds μ' j n := by
  obtain ⟨k, rfl, hj, h1, h2⟩ := h
  exact ⟨k, List.getElem?_set_self hj, h1, h2⟩
theorem Dz.less (h : Dz μ j n μ') (hm : m ≤ n) : Dz μ j m μ' := by
  obtain ⟨k, h, h0, h1, h2⟩ := h
  exact ⟨k, h, h0, h1, by omega⟩
theorem Ds.refl (h : Ds μ j n) : Dz μ j n μ := by
  obtain ⟨k, e, h1⟩ := h
  obtain ⟨hl, e2⟩ := List.getElem?_eq_some_iff.mp e
  exact ⟨k, by rw [← e2, List.set_getElem_self], hl, h1⟩
theorem Dz.get (h : Dz μ j n μ') (hi : j ≠ i) : μ'[i]? = μ[i]? := by
  obtain ⟨k, rfl, _⟩ := h
  exact List.getElem?_set_ne hi
end
section
variable {μ ν : Store} {j n : Nat} {cs : List Int} {env : En}
theorem dm_cells (μ : Store) : dIxD μ (dmD cs j) (.str kCells) = some (.lst (cs.map D.int)) := by
  unfold dmD
  generalize cs.map D.int = X
  kernel_rfl
theorem dm_spot (μ : Store) : dIxD μ (dmD cs j) (.str kSpot) = some (.ref j) := by
  unfold dmD
  generalize cs.map D.int = X
  kernel_rfl
theorem dkv_lc {μ : Store} {k : Nat} {xs : List D} (h : cellOf μ k = some xs) : dkv μ (.ref k) = none := by
  unfold cellOf at h
  unfold dkv
  dsimp only
  split at h
  · rename_i ds e
    rw [e]
  · cases h
theorem ix_ref {μ : Store} {k : Nat} {xs : List D} {i : Int} (h : cellOf μ k = some xs) : dIxD μ (.ref k) (.int i) = atI xs i := by
  unfold dIxD
  rw [dkv_lc h]
  show (match asQ μ (.ref k) with
    | some xs => atI xs i
    | none => none) = _
  rw [show asQ μ (.ref k) = some xs from h]
theorem div_ok {μ : Store} {a b : Int} (h : 0 < b) (h2 : b < 1073741824) : dDiv μ (.int a) (.int b) = some (.int (a / b)) := if_pos ⟨h, .inl h2⟩
theorem mod_ok {μ : Store} {a b : Int} (h : 0 < b) : dMod μ (.int a) (.int b) = some (.int (a % b)) := if_pos h
theorem mul_okl {μ : Store} {a b : Int} (h1 : -(2 ^ 64) < a) (h2 : a < 2 ^ 64) : dMul μ (.int a) (.int b) = some (.int (a * b)) := if_pos (.inl ⟨h1, h2⟩)
theorem mul_okr {μ : Store} {a b : Int} (h1 : -(2 ^ 64) < b) (h2 : b < 2 ^ 64) : dMul μ (.int a) (.int b) = some (.int (a * b)) := if_pos (.inr ⟨h1, h2⟩)
theorem pow_ok {μ : Store} {a b : Int} (h0 : 0 ≤ b) (h1 : b ≤ 1000000) (h2 : a.natAbs < 2 ^ 64) : dPow μ (.int a) (.int b) = some (.int (a ^ b.toNat)) := if_pos ⟨h0, h1, h2⟩
theorem far_go {x0 x1 x2 x3 x5 x6 : Option D} : ∀ (ds : List D) (o : Int) (x7 : Option D), ∃ (o' : Int) (y7 : Option D), forGo none (tgName 7) lb_l_cell_1 ds [x0, x1, x2, x3, some (.int o), x5, x6, x7] μ = .nx [x0, x1, x2, x3, some (.int o'), x5, x6, y7] μ
  | [], o, x7 => ⟨o, x7, rfl⟩
  | d :: ds, o, x7 => by
    obtain ⟨o', y7, e⟩ := far_go (x0 := x0) (x1 := x1) (x2 := x2) (x3 := x3) (x5 := x5) (x6 := x6) ds (o / 306783379) (some d)
    refine ⟨o', y7, ?_⟩
    have dv : dDiv μ (.int o) (.int 306783379) = some (.int (o / 306783379)) := div_ok (by decide) (by decide)
    have bd : lb_l_cell_1 [x0, x1, x2, x3, some (.int o), x5, x6, some d] μ = .nx [x0, x1, x2, x3, some (.int (o / 306783379)), x5, x6, some d] μ := by
      unfold lb_l_cell_1
      simp only [sAsg, mOp, mVar, mC, Rs.bind, Rs.of, List.getElem?_cons_zero, List.getElem?_cons_succ, dv, tgName]
      rfl
    rw [forGo_nx (env1 := [x0, x1, x2, x3, some (.int o), x5, x6, some d]) rfl bd, e]
theorem p_cell (hc : cs.length ≤ 63) (hs : Ds μ j (n + 1)) : ∃ (r : Int) (μ' : Store), m_l_cell [.lst (cs.map D.int), .ref j] μ = .ok (.int r) μ' ∧ Dz μ j n μ' := by
  have hj := hs.lt
  obtain ⟨k, h, h0, h1⟩ := hs
  obtain ⟨C, hC⟩ : ∃ C, C = cs.map D.int := ⟨_, rfl⟩
  have hCl : C.length = cs.length := by rw [hC, List.length_map]
  obtain ⟨q, hq⟩ : ∃ q : Int, q = k + 1 := ⟨_, rfl⟩
  obtain ⟨μ1, hμ1⟩ : ∃ μ1, μ1 = μ.set j (spC q) := ⟨_, rfl⟩
  have g1 : μ1[j]? = some (spC q) := by rw [hμ1]; exact List.getElem?_set_self hj
  have c0 : cellOf μ j = some [.int k] := by unfold cellOf; rw [h]
  have c1 : cellOf μ1 j = some [.int q] := by unfold cellOf; rw [g1]
  have ix0 : dIxD μ (.ref j) (.int 0) = some (.int k) := (ix_ref c0).trans rfl
  have ix1 : dIxD μ1 (.ref j) (.int 0) = some (.int q) := (ix_ref c1).trans rfl
  have e0 : (sSetIxD (mOp dAdd (mOp dIxD (mVar 1) (mC (D.int 0))) (mC (D.int 1))) (mVar 1) (mC (D.int 0))) [some (.lst C), some (.ref j), none, none, none, none, none, none] μ = .nx [some (.lst C), some (.ref j), none, none, none, none, none, none] μ1 := by
    have ad : dAdd μ (.int k) (.int 1) = some (.int q) := by rw [hq]; rfl
    unfold sSetIxD
    rw [show mOp dAdd (mOp dIxD (mVar 1) (mC (D.int 0))) (mC (D.int 1)) [some (.lst C), some (.ref j), none, none, none, none, none, none] μ = .ok (.int q) μ by
      simp only [mOp, mVar, mC, Rs.bind, Rs.of, List.getElem?_cons_zero, List.getElem?_cons_succ, ix0, ad]]
    dsimp only
    rw [show mVar 1 [some (.lst C), some (.ref j), none, none, none, none, none, none] μ = .ok (.ref j) μ from rfl]
    dsimp only
    rw [show mC (D.int 0) [some (.lst C), some (.ref j), none, none, none, none, none, none] μ = .ok (.int 0) μ from rfl]
    dsimp only
    rw [h]
    dsimp only
    rw [if_pos ⟨rfl, Int.le_refl 0, Nat.zero_lt_one⟩, hμ1]
    rfl
  obtain ⟨L, hL⟩ : ∃ L : Nat, L = max 1 cs.length := ⟨_, rfl⟩
  have hL1 : 1 ≤ L := by omega
  have e1 : (sPar 2 3 (mCons (mOp dIxD (mVar 1) (mC (D.int 0))) (mCons (mCb dMaxU (mCons (mC (D.int 1)) (mCons (mCb dLen (mCons (mVar 0) mNil)) mNil))) mNil))) [some (.lst C), some (.ref j), none, none, none, none, none, none] μ1 = .nx [some (.lst C), some (.ref j), some (.int q), some (.int (L : Int)), none, none, none, none] μ1 := by
    have ln : dLen μ1 [.lst C] = some (.int (cs.length : Int)) := by
      show some (D.int (C.length : Int)) = _
      rw [hCl]
    have mx : dMaxU μ1 [.int 1, .int (cs.length : Int)] = some (.int (L : Int)) := by
      show some (D.int (if (cs.length : Int) > 1 then (cs.length : Int) else 1)) = _
      congr 2
      split <;> omega
    have a1 : mOp dIxD (mVar 1) (mC (D.int 0)) [some (.lst C), some (.ref j), none, none, none, none, none, none] μ1 = .ok (.int q) μ1 := by
      simp only [mOp, mVar, mC, Rs.bind, Rs.of, List.getElem?_cons_zero, List.getElem?_cons_succ, ix1]
    have a2 : mCb dMaxU (mCons (mC (D.int 1)) (mCons (mCb dLen (mCons (mVar 0) mNil)) mNil)) [some (.lst C), some (.ref j), none, none, none, none, none, none] μ1 = .ok (.int (L : Int)) μ1 := by
      simp only [mCb, mCons, mVar, mC, mNil, Rs.bind, Rs.of, List.getElem?_cons_zero, ln, mx]
    unfold sPar
    rw [cons_ok a1 (cons_ok a2 rfl)]
    rfl
  obtain ⟨m, hm⟩ := Int.eq_ofNat_of_zero_le (Int.emod_nonneg q (show (L : Int) ≠ 0 by omega))
  have hmL : m < L := by
    have := Int.emod_lt_of_pos q (show (0 : Int) < (L : Int) by omega)
    omega
  obtain ⟨o, ho⟩ : ∃ o : Int, (C ++ [D.int 0])[m]? = some (.int o) := by
    have e : C ++ [D.int 0] = (cs ++ [0]).map D.int := by rw [hC, List.map_append]; rfl
    have hm2 : m < (cs ++ [0]).length := by rw [List.length_append, List.length_singleton]; omega
    rw [e, List.getElem?_map, List.getElem?_eq_getElem hm2]
    exact ⟨_, rfl⟩
  obtain ⟨f, hf⟩ : ∃ f : Int, f = q / (L : Int) := ⟨_, rfl⟩
  have hf0 : 0 ≤ f := by rw [hf]; exact Int.ediv_nonneg (by omega) (by omega)
  have e2 : (sPar 4 5 (mCons (mOp dIxD (mOp dAdd (mVar 0) (mFz (mLst (mCons (mC (D.int 0)) mNil)))) (mOp dMod (mCb dInt (mCons (mVar 2) mNil)) (mVar 3))) (mCons (mOp dDiv (mVar 2) (mVar 3)) mNil))) [some (.lst C), some (.ref j), some (.int q), some (.int (L : Int)), none, none, none, none] μ1 = .nx [some (.lst C), some (.ref j), some (.int q), some (.int (L : Int)), some (.int o), some (.int f), none, none] μ1 := by
    have f0 : mFz (mLst (mCons (mC (D.int 0)) mNil)) [some (.lst C), some (.ref j), some (.int q), some (.int (L : Int)), none, none, none, none] μ1 = .ok (.lst [.int 0]) μ1 := rfl
    have ad : dAdd μ1 (.lst C) (.lst [.int 0]) = some (.lst (C ++ [.int 0])) := if_pos (by rw [hCl, List.length_singleton]; omega)
    have md : dMod μ1 (.int q) (.int (L : Int)) = some (.int (m : Int)) := by
      rw [show D.int (m : Int) = D.int (q % (L : Int)) by rw [hm]]
      exact mod_ok (by omega)
    have dn : dInt μ1 [.int q] = some (.int q) := rfl
    have ix : dIxD μ1 (.lst (C ++ [.int 0])) (.int (m : Int)) = some (.int o) := (show dIxD μ1 (.lst (C ++ [.int 0])) (.int (m : Int)) = atI (C ++ [.int 0]) (m : Int) from rfl).trans (atI_nat ho)
    have dv : dDiv μ1 (.int q) (.int (L : Int)) = some (.int f) := by rw [hf]; exact div_ok (by omega) (by omega)
    have a1 : mOp dIxD (mOp dAdd (mVar 0) (mFz (mLst (mCons (mC (D.int 0)) mNil)))) (mOp dMod (mCb dInt (mCons (mVar 2) mNil)) (mVar 3)) [some (.lst C), some (.ref j), some (.int q), some (.int (L : Int)), none, none, none, none] μ1 = .ok (.int o) μ1 := by
      generalize mFz (mLst (mCons (mC (D.int 0)) mNil)) = X at f0 ⊢
      simp only [mOp, mCb, mCons, mVar, mNil, Rs.bind, Rs.of, List.getElem?_cons_zero, List.getElem?_cons_succ, f0, ad, dn, md, ix]
    have a2 : mOp dDiv (mVar 2) (mVar 3) [some (.lst C), some (.ref j), some (.int q), some (.int (L : Int)), none, none, none, none] μ1 = .ok (.int f) μ1 := by
      simp only [mOp, mVar, Rs.bind, Rs.of, List.getElem?_cons_zero, List.getElem?_cons_succ, dv]
    unfold sPar
    rw [cons_ok a1 (cons_ok a2 rfl)]
    rfl
  obtain ⟨b, e3⟩ : ∃ b : Int, (sAsg (mOp dAdd (mOp dAdd (mOp dMul (mOp dMul (mC (D.int 31)) (mVar 2)) (mVar 2)) (mOp dMul (mC (D.int 7919)) (mVar 2))) (mOp dMul (mOp dMod (mCb dInt (mCons (mVar 4) mNil)) (mC (D.int 2147483629))) (mOp dAdd (mC (D.int 1)) (mVar 5)))) (tgName 6)) [some (.lst C), some (.ref j), some (.int q), some (.int (L : Int)), some (.int o), some (.int f), none, none] μ1 = .nx [some (.lst C), some (.ref j), some (.int q), some (.int (L : Int)), some (.int o), some (.int f), some (.int b), none] μ1 := by
    have q64 : -(2 ^ 64) < q ∧ q < 2 ^ 64 := ⟨by omega, by omega⟩
    have m1 : dMul μ1 (.int 31) (.int q) = some (.int (31 * q)) := mul_okl (by decide) (by decide)
    have m2 : dMul μ1 (.int (31 * q)) (.int q) = some (.int (31 * q * q)) := mul_okr q64.1 q64.2
    have m3 : dMul μ1 (.int 7919) (.int q) = some (.int (7919 * q)) := mul_okl (by decide) (by decide)
    have md : dMod μ1 (.int o) (.int 2147483629) = some (.int (o % 2147483629)) := mod_ok (by decide)
    have dn : dInt μ1 [.int o] = some (.int o) := rfl
    have a1 : dAdd μ1 (.int 1) (.int f) = some (.int (1 + f)) := rfl
    have m4 : dMul μ1 (.int (o % 2147483629)) (.int (1 + f)) = some (.int (o % 2147483629 * (1 + f))) := mul_okl (by
      have := Int.emod_nonneg o (show (2147483629 : Int) ≠ 0 by decide)
      omega) (by
      have := Int.emod_lt_of_pos o (show (0 : Int) < 2147483629 by decide)
      omega)
    have a2 : ∀ x y : Int, dAdd μ1 (.int x) (.int y) = some (.int (x + y)) := fun _ _ => rfl
    refine ⟨31 * q * q + 7919 * q + o % 2147483629 * (1 + f), ?_⟩
    simp only [sAsg, mOp, mCb, mCons, mVar, mC, mNil, Rs.bind, Rs.of, List.getElem?_cons_zero, List.getElem?_cons_succ, m1, m2, m3, md, dn, a1, m4, a2, tgName]
    rfl
  have e5 : ∃ r : Int, ∀ x4 x5 x7, (sRet (mOp dDiv (mOp dMod (mCb dInt (mCons (mOp dPow (mOp dMod (mCb dInt (mCons (mVar 6) mNil)) (mC (D.int 2147483647))) (mC (D.int 5))) mNil)) (mC (D.int 2147483647))) (mC (D.int 7)))) [some (.lst C), some (.ref j), some (.int q), some (.int (L : Int)), x4, x5, some (.int b), x7] μ1 = .rt (.int r) μ1 := by
    have md : ∀ x : Int, dMod μ1 (.int x) (.int 2147483647) = some (.int (x % 2147483647)) := fun _ => mod_ok (by decide)
    have dn : ∀ x : Int, dInt μ1 [.int x] = some (.int x) := fun _ => rfl
    have pw : dPow μ1 (.int (b % 2147483647)) (.int 5) = some (.int ((b % 2147483647) ^ (5 : Int).toNat)) := pow_ok (by decide) (by decide) (by
      have := Int.emod_nonneg b (show (2147483647 : Int) ≠ 0 by decide)
      have := Int.emod_lt_of_pos b (show (0 : Int) < 2147483647 by decide)
      omega)
    have dv : ∀ x : Int, dDiv μ1 (.int x) (.int 7) = some (.int (x / 7)) := fun _ => div_ok (by decide) (by decide)
    refine ⟨(b % 2147483647) ^ (5 : Int).toNat % 2147483647 / 7, fun x4 x5 x7 => ?_⟩
    simp only [sRet, mOp, mCb, mCons, mVar, mC, mNil, Rs.bind, Rs.of, List.getElem?_cons_zero, List.getElem?_cons_succ, dn, md, pw, dv]
  obtain ⟨r5, e5⟩ := e5
  have fin : Dz μ j n μ1 := ⟨q, hμ1, hj, by omega, by omega⟩
  have key : ∃ r : Int, b_l_cell [some (.lst C), some (.ref j), none, none, none, none, none, none] μ = .rt (.int r) μ1 := by
    have pw : dPow μ1 (.int 10) (.int 18) = some (.int ((10 : Int) ^ (18 : Int).toNat)) := pow_ok (by decide) (by decide) (by decide)
    have ge : dGe μ1 (.int o) (.int ((10 : Int) ^ (18 : Int).toNat)) = some (.bl (decide ((10 : Int) ^ (18 : Int).toNat ≤ o))) := rfl
    have lt : dLtA μ1 (.int f) (.int 60) = some (.bl (decide (f < 60))) := rfl
    have t1 : mTest (mOp dGe (mVar 4) (mOp dPow (mC (D.int 10)) (mC (D.int 18)))) [some (.lst C), some (.ref j), some (.int q), some (.int (L : Int)), some (.int o), some (.int f), some (.int b), none] μ1 = .ok (decide ((10 : Int) ^ (18 : Int).toNat ≤ o)) μ1 := by
      simp only [mTest, mOp, mVar, mC, Rs.bind, Rs.of, List.getElem?_cons_zero, List.getElem?_cons_succ, pw, ge]
    have t2 : mTest (mOp dLtA (mVar 5) (mC (D.int 60))) [some (.lst C), some (.ref j), some (.int q), some (.int (L : Int)), some (.int o), some (.int f), some (.int b), none] μ1 = .ok (decide (f < 60)) μ1 := by
      simp only [mTest, mOp, mVar, mC, Rs.bind, Rs.of, List.getElem?_cons_zero, List.getElem?_cons_succ, lt]
    unfold b_l_cell
    rw [seq_nx e0, seq_nx e1, seq_nx e2, seq_nx e3]
    by_cases g : decide ((10 : Int) ^ (18 : Int).toNat ≤ o) = true ∧ decide (f < 60) = true
    · obtain ⟨ga, gb⟩ := g
      have gf : f < 60 := of_decide_eq_true gb
      rw [ga] at t1
      rw [gb] at t2
      have t : mAnd (mTest (mOp dGe (mVar 4) (mOp dPow (mC (D.int 10)) (mC (D.int 18))))) (mTest (mOp dLtA (mVar 5) (mC (D.int 60)))) [some (.lst C), some (.ref j), some (.int q), some (.int (L : Int)), some (.int o), some (.int f), some (.int b), none] μ1 = .ok true μ1 := by
        unfold mAnd
        simp only [t1, Rs.bind, if_true, t2]
      obtain ⟨fn, hfn⟩ := Int.eq_ofNat_of_zero_le hf0
      obtain ⟨o', y7, ef⟩ := far_go (μ := μ1) (x0 := some (.lst C)) (x1 := some (.ref j)) (x2 := some (.int q)) (x3 := some (.int (L : Int))) (x5 := some (.int f)) (x6 := some (.int b)) (rngL 0 fn) o none
      have e6 : (sFor (mRange1 (mCons (mVar 5) mNil)) (tgName 7) lb_l_cell_1) [some (.lst C), some (.ref j), some (.int q), some (.int (L : Int)), some (.int o), some (.int f), some (.int b), none] μ1 = .nx [some (.lst C), some (.ref j), some (.int q), some (.int (L : Int)), some (.int o'), some (.int f), some (.int b), y7] μ1 := by
        unfold sFor
        have rg : mRange1 (mCons (mVar 5) mNil) [some (.lst C), some (.ref j), some (.int q), some (.int (L : Int)), some (.int o), some (.int f), some (.int b), none] μ1 = .ok (rngL 0 fn, none) μ1 := rng_of (n := fn) (by omega) (by
          rw [hfn]
          rfl)
        rw [rg]
        exact ef
      have gt : dGt μ1 (.int o') (.int 0) = some (.bl (decide (0 < o'))) := rfl
      have t3 : mTest (mOp dGt (mVar 4) (mC (D.int 0))) [some (.lst C), some (.ref j), some (.int q), some (.int (L : Int)), some (.int o'), some (.int f), some (.int b), y7] μ1 = .ok (decide (0 < o')) μ1 := by
        simp only [mTest, mOp, mVar, mC, Rs.bind, Rs.of, List.getElem?_cons_zero, List.getElem?_cons_succ, gt]
      by_cases go : 0 < o'
      · rw [decide_eq_true go] at t3
        have md : dMod μ1 (.int o') (.int 306783379) = some (.int (o' % 306783379)) := mod_ok (by decide)
        have dn : dInt μ1 [.int o'] = some (.int o') := rfl
        refine ⟨o' % 306783379, seq_rt ?_⟩
        rw [sif_t t, seq_nx e6, sif_t t3]
        simp only [sRet, mOp, mCb, mCons, mVar, mC, mNil, Rs.bind, Rs.of, List.getElem?_cons_zero, List.getElem?_cons_succ, dn, md]
      · rw [decide_eq_false go] at t3
        refine ⟨r5, ?_⟩
        have q6 : (sIf (mAnd (mTest (mOp dGe (mVar 4) (mOp dPow (mC (D.int 10)) (mC (D.int 18))))) (mTest (mOp dLtA (mVar 5) (mC (D.int 60))))) (sSeq (sFor (mRange1 (mCons (mVar 5) mNil)) (tgName 7) lb_l_cell_1) (sIf (mTest (mOp dGt (mVar 4) (mC (D.int 0)))) (sRet (mOp dMod (mCb dInt (mCons (mVar 4) mNil)) (mC (D.int 306783379)))) sNext)) sNext) [some (.lst C), some (.ref j), some (.int q), some (.int (L : Int)), some (.int o), some (.int f), some (.int b), none] μ1 = .nx [some (.lst C), some (.ref j), some (.int q), some (.int (L : Int)), some (.int o'), some (.int f), some (.int b), y7] μ1 := by
          rw [sif_t t, seq_nx e6]
          exact sif_n t3
        rw [seq_nx q6]
        exact e5 _ _ _
    · have t : mAnd (mTest (mOp dGe (mVar 4) (mOp dPow (mC (D.int 10)) (mC (D.int 18))))) (mTest (mOp dLtA (mVar 5) (mC (D.int 60)))) [some (.lst C), some (.ref j), some (.int q), some (.int (L : Int)), some (.int o), some (.int f), some (.int b), none] μ1 = .ok false μ1 := by
        unfold mAnd
        by_cases ga : decide ((10 : Int) ^ (18 : Int).toNat ≤ o) = true
        · rw [ga] at t1
          have gb : decide (f < 60) = false := by
            cases hb : decide (f < 60) with
            | false => rfl
            | true => exact absurd ⟨ga, hb⟩ g
          rw [gb] at t2
          simp only [t1, Rs.bind, if_true, t2]
        · have ga : decide ((10 : Int) ^ (18 : Int).toNat ≤ o) = false := by
            cases hb : decide ((10 : Int) ^ (18 : Int).toNat ≤ o) with
            | false => rfl
            | true => exact absurd hb ga
          rw [ga] at t1
          simp only [t1, Rs.bind, Bool.false_eq_true, if_false]
      refine ⟨r5, ?_⟩
      rw [seq_nx (sif_n t)]
      exact e5 _ _ _
  obtain ⟨r, er⟩ := key
  exact ⟨r, μ1, by rw [← hC]; exact fnK_of (b := b_l_cell) (E := [some (.lst C), some (.ref j), none, none, none, none, none, none]) rfl rfl er, fin⟩
theorem p_draw (hc : cs.length ≤ 63) {b : Nat} (hs : Ds μ j (n + 1)) (h0 : 0 < b) : ∃ (r : Nat) (μ' : Store), m_l_draw [dmD cs j, .int (b : Int)] μ = .ok (.int (r : Int)) μ' ∧ r < b ∧ Dz μ j n μ' := by
  obtain ⟨x, μ1, e, w⟩ := p_cell (cs := cs) hc hs
  obtain ⟨r, hr⟩ := Int.eq_ofNat_of_zero_le (Int.emod_nonneg x (show (b : Int) ≠ 0 by omega))
  have hb := Int.emod_lt_of_pos x (show (0 : Int) < (b : Int) by omega)
  refine ⟨r, μ1, ?_, by omega, w⟩
  have k1 := dm_cells (cs := cs) (j := j) μ
  have k2 := dm_spot (cs := cs) (j := j) μ
  obtain ⟨M, hM⟩ : ∃ M, M = dmD cs j := ⟨_, rfl⟩
  rw [← hM] at k1 k2 ⊢
  have dn : dInt μ1 [.int x] = some (.int x) := rfl
  have md : dMod μ1 (.int x) (.int (b : Int)) = some (.int (r : Int)) := by
    rw [show D.int (r : Int) = D.int (x % (b : Int)) by rw [hr]]
    exact mod_ok (by omega)
  refine fnK_of (b := b_l_draw) (E := [some M, some (.int (b : Int))]) rfl rfl ?_
  unfold b_l_draw
  simp only [sRet, mOp, mCb, mCall, mCons, mVar, mC, mNil, Rs.bind, Rs.of, List.getElem?_cons_zero, List.getElem?_cons_succ, k1, k2, e, dn, md]
/-- a drawn one of a list -/
theorem p_of (hc : cs.length ≤ 63) {xs : List D} (hs : Ds μ j (n + 1)) (h0 : xs ≠ []) : ∃ (i : Nat) (d : D) (μ' : Store), m_l_of [dmD cs j, .lst xs] μ = .ok d μ' ∧ xs[i]? = some d ∧ Dz μ j n μ' := by
  obtain ⟨r, μ1, e, hr, w⟩ := p_draw (cs := cs) hc hs (List.length_pos_iff.mpr h0)
  obtain ⟨d, hd⟩ : ∃ d, xs[r]? = some d := ⟨_, List.getElem?_eq_getElem hr⟩
  refine ⟨r, d, μ1, ?_, hd, w⟩
  obtain ⟨M, hM⟩ : ∃ M, M = dmD cs j := ⟨_, rfl⟩
  rw [← hM] at e ⊢
  have ln : dLen μ [.lst xs] = some (.int (xs.length : Int)) := rfl
  have ix : dIxD μ1 (.lst xs) (.int (r : Int)) = some d := (show dIxD μ1 (.lst xs) (.int (r : Int)) = atI xs (r : Int) from rfl).trans (atI_nat hd)
  refine fnK_of (b := b_l_of) (E := [some M, some (.lst xs)]) rfl rfl ?_
  unfold b_l_of
  simp only [sRet, mOp, mCb, mCall, mCons, mVar, mNil, Rs.bind, Rs.of, List.getElem?_cons_zero, List.getElem?_cons_succ, ln, e, ix]
/-- a drawn sign of a text -/
theorem p_ofS (hc : cs.length ≤ 63) {l : Codes} (hs : Ds μ j (n + 1)) (h0 : l ≠ []) (hl : l.length ≤ 100000) : ∃ (c : Nat) (μ' : Store), m_l_of [dmD cs j, .str l] μ = .ok (.str [c]) μ' ∧ c ∈ l ∧ Dz μ j n μ' := by
  obtain ⟨r, μ1, e, hr, w⟩ := p_draw (cs := cs) hc hs (List.length_pos_iff.mpr h0)
  refine ⟨l[r], μ1, ?_, List.getElem_mem hr, w⟩
  obtain ⟨M, hM⟩ : ∃ M, M = dmD cs j := ⟨_, rfl⟩
  rw [← hM] at e ⊢
  have ln : dLen μ [.str l] = some (.int (l.length : Int)) := if_pos hl
  have ix : dIxD μ1 (.str l) (.int (r : Int)) = some (.str [l[r]]) := by
    show (if l.length ≤ 100000 then (atI l (r : Int)).map (fun c => D.str [c]) else none) = _
    rw [if_pos hl, atI_nat (List.getElem?_eq_getElem hr)]
    rfl
  obtain ⟨c, hc0⟩ : ∃ c, c = l[r] := ⟨_, rfl⟩
  rw [← hc0] at ix ⊢
  refine fnK_of (b := b_l_of) (E := [some M, some (.str l)]) rfl rfl ?_
  unfold b_l_of
  simp only [sRet, mOp, mCb, mCall, mCons, mVar, mNil, Rs.bind, Rs.of, List.getElem?_cons_zero, List.getElem?_cons_succ, ln, e, ix]
theorem drawB (hc : cs.length ≤ 63) {b : Nat} (hs : Ds μ j (n + 1)) (h0 : 0 < b) : ∃ (r : Nat) (μ' : Store), m_l_draw [dmD cs j, .int (b : Int)] (μ ++ ν) = .ok (.int (r : Int)) (μ' ++ ν) ∧ r < b ∧ Dz μ j n μ' := by
  obtain ⟨r, μ1, e, hr, w⟩ := p_draw (cs := cs) hc (hs.app (ν := ν)) h0
  obtain ⟨μ2, rfl, w2⟩ := w.app hs.lt
  exact ⟨r, μ2, e, hr, w2⟩
theorem ofSB (hc : cs.length ≤ 63) {l : Codes} (hs : Ds μ j (n + 1)) (h0 : l ≠ []) (hl : l.length ≤ 100000) : ∃ (c : Nat) (μ' : Store), m_l_of [dmD cs j, .str l] (μ ++ ν) = .ok (.str [c]) (μ' ++ ν) ∧ c ∈ l ∧ Dz μ j n μ' := by
  obtain ⟨c, μ1, e, hd, w⟩ := p_ofS (cs := cs) hc (hs.app (ν := ν)) h0 hl
  obtain ⟨μ2, rfl, w2⟩ := w.app hs.lt
  exact ⟨c, μ2, e, hd, w2⟩
end
end
end My
namespace My
open PySem PySem.Spec PyProof.Rows L2
section
variable {P : Program} [hP : OkP fileS P] {w : World} {K : PySem.W.Frag} {mg : Str → Option Value} {base : Heap}
section
variable {μ : Store} {w : Codes} {ws : List Codes} {k : Nat}
theorem add_l {a b : List D} (h : a.length + b.length ≤ 100000) : dAdd μ (.lst a) (.lst b) = some (.lst (a ++ b)) := if_pos h
theorem strs_flat (ws : List Codes) : (ws.map D.str).all flatD = true := by
  rw [List.all_map]
  exact List.all_eq_true.mpr fun _ _ => rfl
theorem bIn_c (h : cellOf μ k = some (ws.map D.str)) : bIn μ (.str w) (.ref k) = some (decide (w ∈ ws)) := by
  have e : bIn μ (.str w) (.ref k) = (match asQ μ (.ref k) with
    | some ys => if flatD (.str w) = true ∧ ys.all flatD = true then some (inV (toV (.str w)) (ys.map toV)) else none
    | none => none) := by
    cases w with
    | nil => rfl
    | cons c w => cases w <;> rfl
  rw [e, show asQ μ (.ref k) = some (ws.map D.str) from h]
  dsimp only
  rw [if_pos ⟨rfl, strs_flat ws⟩, List.map_map]
  exact congrArg some (inV_sv w ws)
theorem ni_c (h : cellOf μ k = some (ws.map D.str)) : dNiD μ (.str w) (.ref k) = some (.bl (!decide (w ∈ ws))) := by
  unfold dNiD dHasK
  rw [dkv_lc h]
  dsimp only
  unfold dNi
  rw [bIn_c h]
  rfl
theorem cellL {N : Store} {X : List D} (h : N.length = k) : cellOf (N ++ [.lst X]) k = some X := by
  subst h
  exact cellT
theorem setL {N : Store} {X : List D} {c : Cell} (h : N.length = k) : (N ++ [c]).set k (.lst X) = N ++ [.lst X] := by
  subst h
  exact setT
/-- xs.append(e) of the list in the last cell -/
theorem app_cell {env : En} {o e : Mo D} {N N' : Store} {ds : List D} {y : D} (hL : N.length = k) (hL' : N'.length = k) (h1 : o env (N ++ [.lst ds]) = .ok (.ref k) (N ++ [.lst ds])) (h2 : e env (N ++ [.lst ds]) = .ok y (N' ++ [.lst ds])) (hp : pureD y = true) (hd : ds.length < 100000) :
    sDrop (mApp o e) env (N ++ [.lst ds]) = .nx env (N' ++ [.lst (ds ++ [y])]) := by
  unfold sDrop mApp
  rw [h1]
  simp only [Rs.bind, cellL hL, Option.isSome_some, if_true, h2, cellL hL']
  rw [if_pos ⟨hp, hd⟩, setL hL']
/-- a new list that goes out of its def frozen -/
theorem fnD_cell {np nl : Nat} {b : MS} {ds : List D} {μ μ' : Store} {E : En} {X : List D} (hl : ds.length = np) (hE : ds.map some ++ List.replicate nl none = E) (hL : μ.length = k) (hL' : μ'.length = k) (h : b E μ = .rt (.ref k) (μ' ++ [.lst X])) : fnD np nl b ds μ = .ok (.lst X) μ' := by
  unfold fnD
  rw [if_pos hl, hE, h]
  show finD μ.length (.ref k) (μ' ++ [Cell.lst X]) = _
  rw [hL]
  show (if k < k then Rs.ok (D.ref k) ((μ' ++ [Cell.lst X]).take k) else (match (μ' ++ [Cell.lst X])[k]? with
    | some c => Rs.ok (frzC c) ((μ' ++ [Cell.lst X]).take k)
    | none => .no)) = _
  rw [if_neg (Nat.lt_irrefl k)]
  subst hL'
  rw [List.getElem?_concat_length, List.take_left']
  · rfl
  · rfl
/-- a value that goes out of a def that made a list -/
theorem fnD_val {np nl : Nat} {b : MS} {ds : List D} {μ μ' ν : Store} {E : En} {d : D} (hl : ds.length = np) (hE : ds.map some ++ List.replicate nl none = E) (hL : μ'.length = μ.length) (h : b E μ = .rt d (μ' ++ ν)) (hd : undD μ.length d = true) (hr : ∀ k, d ≠ .ref k) : fnD np nl b ds μ = .ok d μ' := by
  unfold fnD
  rw [if_pos hl, hE, h]
  show finD μ.length d (μ' ++ ν) = _
  have tk : (μ' ++ ν).take μ.length = μ' := by rw [← hL, List.take_left']; rfl
  unfold finD
  split
  · rename_i k
    exact absurd rfl (hr k)
  · rw [if_pos hd, tk]
end
end
end My
namespace My
open PySem PySem.Spec PyProof.Rows L2
section
variable {P : Program} [hP : OkP fileS P] {w : World} {K : PySem.W.Frag} {mg : Str → Option Value} {base : Heap}
section
variable {μ ν : Store} {j n L : Nat} {cs : List Int} {env : En}
/-- how words begin -/
def fsL : Codes := [97, 98, 99, 101, 102, 103, 104, 105, 106, 108, 109, 110, 111, 112, 113, 115, 116, 117, 118, 119, 120, 121]
/-- a to y -/
def ayL : Codes := [97, 98, 99, 100, 101, 102, 103, 104, 105, 106, 107, 108, 109, 110, 111, 112, 113, 114, 115, 116, 117, 118, 119, 120, 121]
structure Wz (w : Codes) : Prop where
  hd : ∃ c r, w = c :: r ∧ c ∈ fsL
  sg : ∀ c ∈ w, c ∈ ayL
  ln : w.length ≤ 12
  ns : w ≠ [115, 101, 108, 102]
theorem fs_ay : ∀ c ∈ fsL, c ∈ ayL := by decide
theorem ay_ab : ∀ c ∈ ayL, 97 ≤ c ∧ c ≤ 121 := by decide
theorem fs_no : ∀ c ∈ fsL, c ≠ 107 ∧ c ≠ 114 ∧ c ≠ 100 := by decide
theorem Wz.wd {w : Codes} (h : Wz w) : Wd w := by
  obtain ⟨c, r, rfl, hc⟩ := h.hd
  obtain ⟨h1, h2, h3⟩ := fs_no c hc
  refine ⟨isW_iff.mpr ⟨⟨by simp, h.ln⟩, fun x hx => ?_, h.ns⟩, fun z => h1 (List.cons.inj z).1, fun z => h2 (List.cons.inj z).1, fun z => h3 (List.cons.inj z).1, fun z => h2 (List.cons.inj z).1⟩
  have := ay_ab x (h.sg x hx)
  omega
/-- a word, or what it is to become -/
structure Wp (w : Codes) : Prop where
  hd : ∃ c r, w = c :: r ∧ c ∈ fsL
  sg : ∀ c ∈ w, c ∈ ayL
  ln : w.length ≤ 12
theorem wp_of {c : Nat} {r : Codes} (hc : c ∈ fsL) (hr : ∀ x ∈ r, x ∈ ayL) (hl : r.length ≤ 11) : Wp (c :: r) := ⟨⟨c, r, rfl, hc⟩, fun x hx => by
  rcases List.mem_cons.mp hx with rfl | hx
  · exact fs_ay x hc
  · exact hr x hx, by rw [List.length_cons]; omega⟩
theorem str_at {l : Codes} {i : Nat} (hi : i < l.length) (hl : l.length ≤ 100000) : ∃ c, c ∈ l ∧ ∀ μ, dIxD μ (.str l) (.int (i : Int)) = some (.str [c]) := ⟨l[i], List.getElem_mem hi, fun μ => by
  show (if l.length ≤ 100000 then (atI l (i : Int)).map (fun c => D.str [c]) else none) = _
  rw [if_pos hl, atI_nat (List.getElem?_eq_getElem hi)]
  rfl⟩
theorem restW_go {x1 x2 x3 x4 x5 x7 x8 x9 x10 x11 x12 x13 : Option D} (hc : cs.length ≤ 63) : ∀ (ds : List D) (μ : Store) (n : Nat), Ds μ j (n + ds.length) →
    ∃ (l : Codes) (μ' : Store), lcGo none (tgName 6) (mC true) le_l_words_1 [some (dmD cs j), x1, x2, x3, x4, x5, none, x7, x8, x9, x10, x11, x12, x13] (ds) (μ ++ ν) = .ok (l.map fun c => .str [c]) (μ' ++ ν) ∧ l.length = ds.length ∧ (∀ c ∈ l, c ∈ ayL) ∧ Dz μ j n μ'
  | [], μ, n, h => ⟨[], μ, rfl, rfl, (fun _ z => (nomatch z)), h.refl⟩
  | d :: ds, μ, n, h => by
    rw [List.length_cons] at h
    obtain ⟨r, μ1, e1, hr, w1⟩ := drawB (cs := cs) (ν := ν) (b := 25) (n := n + ds.length) hc h (by decide)
    obtain ⟨l, μ2, e2, hl, hcs, w2⟩ := restW_go (x1 := x1) (x2 := x2) (x3 := x3) (x4 := x4) (x5 := x5) (x7 := x7) (x8 := x8) (x9 := x9) (x10 := x10) (x11 := x11) (x12 := x12) (x13 := x13) hc ds μ1 n w1.ds
    obtain ⟨c, hcl, ix⟩ := str_at (l := ayL) (i := r) hr (by decide)
    have e1 : m_l_draw [dmD cs j, .int 25] (μ ++ ν) = .ok (.int (r : Int)) (μ1 ++ ν) := e1
    obtain ⟨M, hM⟩ : ∃ M, M = dmD cs j := ⟨_, rfl⟩
    rw [← hM] at e1 e2 ⊢
    have el : le_l_words_1 [some M, x1, x2, x3, x4, x5, some d, x7, x8, x9, x10, x11, x12, x13] (μ ++ ν) = .ok (.str [c]) (μ1 ++ ν) := by
      have ix : dIxD (μ1 ++ ν) (.str [97, 98, 99, 100, 101, 102, 103, 104, 105, 106, 107, 108, 109, 110, 111, 112, 113, 114, 115, 116, 117, 118, 119, 120, 121]) (.int (r : Int)) = some (.str [c]) := ix _
      unfold le_l_words_1
      simp only [mOp, mC, mCall, mCons, mVar, mNil, Rs.bind, Rs.of, List.getElem?_cons_zero, e1, ix]
    refine ⟨c :: l, μ2, ?_, by rw [List.length_cons, List.length_cons, hl], fun x hm => ?_, w1.trans w2⟩
    · rw [lcGo_yes (env1 := [some M, x1, x2, x3, x4, x5, some d, x7, x8, x9, x10, x11, x12, x13]) (μ1 := μ ++ ν) (x := .str [c]) (μ2 := μ1 ++ ν) rfl rfl el, e2]
      rfl
    · rcases List.mem_cons.mp hm with rfl | hm
      · exact hcl
      · exact hcs x hm
theorem flat1 : ∀ l : Codes, (l.map fun c => [c]).flatten = l
  | [] => rfl
  | c :: l => by
    rw [List.map_cons, List.flatten_cons, flat1 l]
    rfl
theorem joinL_nil : ∀ ls : List Codes, TL.joinL [] ls = ls.flatten
  | [] => rfl
  | [x] => by simp [TL.joinL]
  | x :: y :: r => by
    have ih := joinL_nil (y :: r)
    rw [List.flatten_cons, ← ih]
    simp [TL.joinL]
theorem nd_len : ∀ (ks L : List Codes), ks.Nodup → (∀ x ∈ ks, x ∈ L) → ks.length ≤ L.length
  | [], _, _, _ => Nat.zero_le _
  | k :: ks, L, h, h2 => by
    have h := List.nodup_cons.mp h
    have hk : k ∈ L := h2 k (.head _)
    have := nd_len ks (L.erase k) h.2 fun x hx => (List.mem_erase_of_ne fun z => h.1 (by rw [← z]; exact hx)).mpr (h2 x (.tail _ hx))
    rw [List.length_erase_of_mem hk] at this
    have := List.length_pos_of_mem hk
    rw [List.length_cons]
    omega
/-- a new one among the tries -/
theorem tries_ne {w : Codes} {ws : List Codes} (hl : ws.length ≤ 20) : ∃ v, v ∈ ([w] ++ fsL.map fun c => w.take 11 ++ [c]) ∧ v ∉ ws ∧ v ≠ [115, 101, 108, 102] := by
  have nd : (fsL.map fun c => w.take 11 ++ [c]).Nodup := by
    refine List.pairwise_map.mpr ((show fsL.Nodup by decide).imp fun {a b} h e => h ?_)
    exact (List.cons.inj (List.append_cancel_left e)).1
  rcases Classical.em (∃ v, v ∈ (fsL.map fun c => w.take 11 ++ [c]) ∧ v ∉ ([115, 101, 108, 102] :: ws)) with ⟨v, h1, h2⟩ | h
  · exact ⟨v, List.mem_append_right _ h1, fun z => h2 (.tail _ z), fun z => h2 (by rw [z]; exact .head _)⟩
  · exfalso
    have sub : ∀ v ∈ (fsL.map fun c => w.take 11 ++ [c]), v ∈ ([115, 101, 108, 102] :: ws) := fun v hv => by
      rcases Classical.em (v ∈ ([115, 101, 108, 102] :: ws)) with z | z
      · exact z
      · exact absurd ⟨v, hv, z⟩ h
    have le := nd_len _ _ nd sub
    rw [List.length_map, List.length_cons] at le
    have : fsL.length = 22 := by decide
    omega
end
end
end My
namespace My
open PySem PySem.Spec PyProof.Rows L2
section
variable {P : Program} [hP : OkP fileS P] {w : World} {K : PySem.W.Frag} {mg : Str → Option Value} {base : Heap}
section
variable {μ ν : Store} {j n L : Nat} {cs : List Int}
abbrev wE (M : D) (many size : Int) (L : Nat) (rest : Codes) (at_ first : Int) (alike : Bool) (x6 x10 x11 x12 : Option D) : En := [some M, some (.int many), some (.str fsL), some (.int size), some (.ref L), some (.str rest), x6, some (.int at_), some (.int first), some (.bl alike), x10, x11, x12, none]
theorem mod_at {μ : Store} {a b : Int} {m : Nat} (ha : 0 ≤ a) (hb : 0 ≤ b) (hm : 0 < m) : ∃ q : Nat, q < m ∧ dMod μ (.int (a + b)) (.int (m : Int)) = some (.int (q : Int)) := by
  obtain ⟨q, hq⟩ := Int.eq_ofNat_of_zero_le (Int.emod_nonneg (a + b) (show (m : Int) ≠ 0 by omega))
  have := Int.emod_lt_of_pos (a + b) (show (0 : Int) < (m : Int) by omega)
  refine ⟨q, by omega, ?_⟩
  rw [show D.int (q : Int) = D.int ((a + b) % (m : Int)) by rw [hq]]
  exact mod_ok (by omega)
theorem wd_step (hc : cs.length ≤ 63) {many k : Int} {size at_ first : Nat} {rest : Codes} {alike : Bool} {ws : List Codes} {x10 x11 x12 : Option D} (hL : μ.length = L) (hk : 0 ≤ k) (hz : size ≤ 10) (hrl : rest.length = size) (hra : ∀ c ∈ rest, c ∈ ayL) (hat : at_ ≤ size) (hf : first < 22) (hws : ws.length ≤ 20) (hs : Ds μ j (n + 2)) :
    ∃ (v : Codes) (y10 y11 y12 : Option D) (μ' : Store), lb_l_words_5 (wE (dmD cs j) many size L rest at_ first alike (some (.int k)) x10 x11 x12) (μ ++ [.lst (ws.map D.str)]) = .nx (wE (dmD cs j) many size L rest at_ first alike (some (.int k)) y10 y11 y12) (μ' ++ [.lst ((ws ++ [v]).map D.str)]) ∧ Wz v ∧ v ∉ ws ∧ Dz μ j n μ' := by
  obtain ⟨c0, μ1, e1, hc0, w1⟩ := ofSB (cs := cs) (ν := [.lst (ws.map D.str)]) (l := fsL) (n := n + 1) hc hs (by decide) (by decide)
  obtain ⟨r, μ2, e2, hr, wz2⟩ := drawB (cs := cs) (ν := [.lst (ws.map D.str)]) (b := size + 1) (n := n) hc w1.ds (by omega)
  obtain ⟨M, hM⟩ : ∃ M, M = dmD cs j := ⟨_, rfl⟩
  obtain ⟨CW, hCW⟩ : ∃ CW : Cell, CW = .lst (ws.map D.str) := ⟨_, rfl⟩
  rw [← hM, ← hCW] at e1 e2
  rw [← hM, ← hCW]
  have l1 : μ1.length = L := w1.len.trans hL
  have l2 : μ2.length = L := wz2.len.trans l1
  have sr : ∀ N : Store, dSlV N (.str rest) none (some (r : Int)) = some (.str (rest.take r)) := fun N => by
    have e : sl rest none (some (r : Int)) = rest.take r := by rw [sl_to (by omega), Int.toNat_natCast]
    rw [← e]
    exact if_pos (by omega)
  have wp0 : Wp (c0 :: rest.take r) := wp_of hc0 (fun x hx => hra x (List.mem_of_mem_take hx)) (by rw [List.length_take]; omega)
  have s0 : (sAsg (mOp dAdd (mCall m_l_of (mCons (mVar 0) (mCons (mVar 2) mNil))) (mSl dSlV (mVar 5) mNoP (mPart (mCall m_l_draw (mCons (mVar 0) (mCons (mOp dAdd (mVar 3) (mC (D.int 1))) mNil)))))) (tgName 10)) (wE M many size L rest at_ first alike (some (.int k)) x10 x11 x12) (μ ++ [CW]) = .nx (wE M many size L rest at_ first alike (some (.int k)) (some (.str (c0 :: rest.take r))) x11 x12) (μ2 ++ [CW]) := by
    have a1 : mCall m_l_of (mCons (mVar 0) (mCons (mVar 2) mNil)) (wE M many size L rest at_ first alike (some (.int k)) x10 x11 x12) (μ ++ [CW]) = .ok (.str [c0]) (μ1 ++ [CW]) := e1
    have ad1 : dAdd (μ1 ++ [CW]) (.int (size : Int)) (.int 1) = some (.int ((size + 1 : Nat) : Int)) := rfl
    have a2 : mSl dSlV (mVar 5) mNoP (mPart (mCall m_l_draw (mCons (mVar 0) (mCons (mOp dAdd (mVar 3) (mC (D.int 1))) mNil)))) (wE M many size L rest at_ first alike (some (.int k)) x10 x11 x12) (μ1 ++ [CW]) = .ok (.str (rest.take r)) (μ2 ++ [CW]) := by
      simp only [mSl, mNoP, mPart, mOp, mCall, mCons, mVar, mC, mNil, Rs.bind, Rs.of, List.getElem?_cons_zero, List.getElem?_cons_succ, ad1, e2, sr]
    have ad2 : dAdd (μ2 ++ [CW]) (.str [c0]) (.str (rest.take r)) = some (.str (c0 :: rest.take r)) := if_pos (by rw [List.length_singleton, List.length_take]; omega)
    generalize mCall m_l_of (mCons (mVar 0) (mCons (mVar 2) mNil)) = X at a1 ⊢
    generalize mSl dSlV (mVar 5) mNoP (mPart (mCall m_l_draw (mCons (mVar 0) (mCons (mOp dAdd (mVar 3) (mC (D.int 1))) mNil)))) = Y at a2 ⊢
    simp only [sAsg, mOp, Rs.bind, Rs.of, a1, a2, ad2, tgName]
    rfl
  obtain ⟨w0, hw0⟩ : ∃ w0, w0 = c0 :: rest.take r := ⟨_, rfl⟩
  rw [← hw0] at s0 wp0
  obtain ⟨S2, hS2⟩ : ∃ S2, S2 = μ2 ++ [CW] := ⟨_, rfl⟩
  rw [← hS2] at s0
  obtain ⟨q22, hq22, m22⟩ := mod_at (μ := S2) (a := (first : Int)) (b := k) (m := 22) (by omega) hk (by decide)
  have m22 : dMod S2 (.int ((first : Int) + k)) (.int 22) = some (.int (q22 : Int)) := m22
  obtain ⟨q25, hq25, m25⟩ := mod_at (μ := S2) (a := (first : Int)) (b := k) (m := 25) (by omega) hk (by decide)
  have m25 : dMod S2 (.int ((first : Int) + k)) (.int 25) = some (.int (q25 : Int)) := m25
  have dn : ∀ x : Int, dInt S2 [.int x] = some (.int x) := fun _ => rfl
  have adk : dAdd S2 (.int (first : Int)) (.int k) = some (.int ((first : Int) + k)) := rfl
  -- 1: alike from the first sign on
  have s1 : ∃ w1, Wp w1 ∧ (sIf (mAnd (mTest (mVar 9)) (mTest (mOp dEq (mVar 7) (mC (D.int 0))))) (sAsg (mOp dAdd (mOp dIxD (mVar 2) (mOp dMod (mCb dInt (mCons (mOp dAdd (mVar 8) (mVar 6)) mNil)) (mC (D.int 22)))) (mVar 5)) (tgName 10)) sNext) (wE M many size L rest at_ first alike (some (.int k)) (some (.str w0)) x11 x12) S2 = .nx (wE M many size L rest at_ first alike (some (.int k)) (some (.str w1)) x11 x12) S2 := by
    have eq : dEq S2 (.int (at_ : Int)) (.int 0) = some (.bl (decide ((at_ : Int) = 0))) := rfl
    have t : mAnd (mTest (mVar 9)) (mTest (mOp dEq (mVar 7) (mC (D.int 0)))) (wE M many size L rest at_ first alike (some (.int k)) (some (.str w0)) x11 x12) S2 = .ok (alike && decide ((at_ : Int) = 0)) S2 := by
      cases alike <;> simp only [mAnd, mTest, mOp, mVar, mC, Rs.bind, Rs.of, List.getElem?_cons_zero, List.getElem?_cons_succ, eq, if_true, Bool.false_eq_true, if_false, Bool.true_and, Bool.false_and]
    cases hg : (alike && decide ((at_ : Int) = 0)) with
    | false =>
      rw [hg] at t
      exact ⟨w0, wp0, sif_n t⟩
    | true =>
      rw [hg] at t
      obtain ⟨c, hcf, ix⟩ := str_at (l := fsL) (i := q22) hq22 (by decide)
      have ad : dAdd S2 (.str [c]) (.str rest) = some (.str (c :: rest)) := if_pos (by rw [List.length_singleton]; omega)
      refine ⟨c :: rest, wp_of hcf hra (by omega), ?_⟩
      rw [sif_t t]
      simp only [sAsg, mOp, mCb, mCons, mVar, mC, mNil, Rs.bind, Rs.of, List.getElem?_cons_zero, List.getElem?_cons_succ, adk, dn, m22, ix, ad, tgName]
      rfl
  obtain ⟨w1', wp1, s1⟩ := s1
  -- 2: alike but for a later sign
  have s2 : ∃ w2 y11, Wp w2 ∧ (sIf (mAnd (mTest (mVar 9)) (mTest (mOp dGt (mVar 7) (mC (D.int 0))))) (sSeq (sAsg (mOp dIxD (mC (D.str [97, 98, 99, 100, 101, 102, 103, 104, 105, 106, 107, 108, 109, 110, 111, 112, 113, 114, 115, 116, 117, 118, 119, 120, 121])) (mOp dMod (mCb dInt (mCons (mOp dAdd (mVar 8) (mVar 6)) mNil)) (mC (D.int 25)))) (tgName 11)) (sAsg (mOp dAdd (mOp dAdd (mOp dAdd (mOp dIxD (mVar 2) (mVar 8)) (mSl dSlV (mVar 5) mNoP (mPart (mOp dSub (mVar 7) (mC (D.int 1)))))) (mVar 11)) (mSl dSlV (mVar 5) (mPart (mVar 7)) mNoP)) (tgName 10))) sNext) (wE M many size L rest at_ first alike (some (.int k)) (some (.str w1')) x11 x12) S2 = .nx (wE M many size L rest at_ first alike (some (.int k)) (some (.str w2)) y11 x12) S2 := by
    have gt : dGt S2 (.int (at_ : Int)) (.int 0) = some (.bl (decide ((0 : Int) < (at_ : Int)))) := rfl
    have t : mAnd (mTest (mVar 9)) (mTest (mOp dGt (mVar 7) (mC (D.int 0)))) (wE M many size L rest at_ first alike (some (.int k)) (some (.str w1')) x11 x12) S2 = .ok (alike && decide ((0 : Int) < (at_ : Int))) S2 := by
      cases alike <;> simp only [mAnd, mTest, mOp, mVar, mC, Rs.bind, Rs.of, List.getElem?_cons_zero, List.getElem?_cons_succ, gt, if_true, Bool.false_eq_true, if_false, Bool.true_and, Bool.false_and]
    cases hg : (alike && decide ((0 : Int) < (at_ : Int))) with
    | false =>
      rw [hg] at t
      exact ⟨w1', x11, wp1, sif_n t⟩
    | true =>
      rw [hg] at t
      have ha0 : 0 < at_ := by
        have := of_decide_eq_true (Bool.and_eq_true _ _ |>.mp hg).2
        omega
      obtain ⟨c, hcf, ix⟩ := str_at (l := fsL) (i := first) hf (by decide)
      obtain ⟨d, hda, iy⟩ := str_at (l := ayL) (i := q25) hq25 (by decide)
      have iy : dIxD S2 (.str [97, 98, 99, 100, 101, 102, 103, 104, 105, 106, 107, 108, 109, 110, 111, 112, 113, 114, 115, 116, 117, 118, 119, 120, 121]) (.int (q25 : Int)) = some (.str [d]) := iy S2
      have sb : dSub S2 (.int (at_ : Int)) (.int 1) = some (.int ((at_ - 1 : Nat) : Int)) := by
        show some (D.int ((at_ : Int) - 1)) = _
        congr 2
        omega
      have p1 : dSlV S2 (.str rest) none (some ((at_ - 1 : Nat) : Int)) = some (.str (rest.take (at_ - 1))) := by
        have e : sl rest none (some ((at_ - 1 : Nat) : Int)) = rest.take (at_ - 1) := by rw [sl_to (by omega), Int.toNat_natCast]
        rw [← e]
        exact if_pos (by omega)
      have p2 : dSlV S2 (.str rest) (some (at_ : Int)) none = some (.str (rest.drop at_)) := by
        have e : sl rest (some (at_ : Int)) none = rest.drop at_ := by rw [sl_from (by omega), Int.toNat_natCast]
        rw [← e]
        exact if_pos (by omega)
      have a1 : dAdd S2 (.str [c]) (.str (rest.take (at_ - 1))) = some (.str (c :: rest.take (at_ - 1))) := if_pos (by rw [List.length_singleton, List.length_take]; omega)
      have a2 : dAdd S2 (.str (c :: rest.take (at_ - 1))) (.str [d]) = some (.str (c :: (rest.take (at_ - 1) ++ [d]))) := if_pos (by rw [List.length_singleton, List.length_cons, List.length_take]; omega)
      have a3 : dAdd S2 (.str (c :: (rest.take (at_ - 1) ++ [d]))) (.str (rest.drop at_)) = some (.str (c :: (rest.take (at_ - 1) ++ [d] ++ rest.drop at_))) := if_pos (by rw [List.length_cons, List.length_append, List.length_singleton, List.length_take, List.length_drop]; omega)
      refine ⟨c :: (rest.take (at_ - 1) ++ [d] ++ rest.drop at_), some (.str [d]), wp_of hcf (fun x hx => ?_) (by simp only [List.length_append, List.length_singleton, List.length_take, List.length_drop]; omega), ?_⟩
      · rcases List.mem_append.mp hx with hx | hx
        · rcases List.mem_append.mp hx with hx | hx
          · exact hra x (List.mem_of_mem_take hx)
          · rw [List.mem_singleton.mp hx]; exact hda
        · exact hra x (List.mem_of_mem_drop hx)
      · rw [sif_t t]
        simp only [sSeq, sAsg, mOp, mSl, mNoP, mPart, mCb, mCons, mVar, mC, mNil, Rs.bind, Rs.of, List.getElem?_cons_zero, List.getElem?_cons_succ, adk, dn, m25, iy, ix, sb, p1, p2, a1, a2, a3, tgName, List.length_cons, List.length_nil, Nat.reduceAdd, Nat.reduceLT, if_true, List.set_cons_zero, List.set_cons_succ]
        all_goals rfl
  obtain ⟨w2, y11, wp2, s2⟩ := s2
  -- 3: the tries
  obtain ⟨T, hT⟩ : ∃ T : List Codes, T = [w2] ++ fsL.map fun c => w2.take 11 ++ [c] := ⟨_, rfl⟩
  have hTl : T.length = 23 := by rw [hT, List.length_append, List.length_map]; rfl
  have hTp : ∀ v ∈ T, Wp v := fun v hv => by
    rw [hT] at hv
    rcases List.mem_append.mp hv with hv | hv
    · rw [List.mem_singleton.mp hv]; exact wp2
    · obtain ⟨c, hcf, rfl⟩ := List.mem_map.mp hv
      obtain ⟨d, r2, e, hd⟩ := wp2.hd
      refine ⟨⟨d, r2.take 10 ++ [c], by rw [e]; rfl, hd⟩, fun x hx => ?_, by rw [List.length_append, List.length_take, List.length_singleton]; omega⟩
      rcases List.mem_append.mp hx with hx | hx
      · exact wp2.sg x (List.mem_of_mem_take hx)
      · rw [List.mem_singleton.mp hx]; exact fs_ay c hcf
  have s3 : (sAsg (mOp dAdd (mFz (mLst (mCons (mVar 10) mNil))) (mFz (mLc (mIter (mVar 2)) (tgName 11) (mC true) le_l_words_2 [11]))) (tgName 12)) (wE M many size L rest at_ first alike (some (.int k)) (some (.str w2)) y11 x12) S2 = .nx (wE M many size L rest at_ first alike (some (.int k)) (some (.str w2)) y11 (some (.lst (T.map D.str)))) S2 := by
    have lc : mLc (mIter (mVar 2)) (tgName 11) (mC true) le_l_words_2 [11] (wE M many size L rest at_ first alike (some (.int k)) (some (.str w2)) y11 x12) S2 = .ok ((fsL.map fun c => w2.take 11 ++ [c]).map D.str) S2 := by
      rw [List.map_map]
      refine lc_map (fun c : Nat => .str [c]) (fun c => D.str (w2.take 11 ++ [c])) (as := fsL) rfl (by decide) fun c _ => ⟨wE M many size L rest at_ first alike (some (.int k)) (some (.str w2)) (some (.str [c])) x12, rfl, rfl, ?_⟩
      have p1 : dSlV S2 (.str w2) none (some 11) = some (.str (w2.take 11)) := by
        have e : sl w2 none (some 11) = w2.take 11 := sl_to (by decide)
        rw [← e]
        exact if_pos (by have := wp2.ln; omega)
      have ad : dAdd S2 (.str (w2.take 11)) (.str [c]) = some (.str (w2.take 11 ++ [c])) := if_pos (by rw [List.length_singleton, List.length_take]; omega)
      unfold le_l_words_2
      simp only [mOp, mSl, mNoP, mPart, mVar, mC, Rs.bind, Rs.of, List.getElem?_cons_zero, List.getElem?_cons_succ, p1, ad]
    have f1 : mFz (mLst (mCons (mVar 10) mNil)) (wE M many size L rest at_ first alike (some (.int k)) (some (.str w2)) y11 x12) S2 = .ok (.lst [.str w2]) S2 := rfl
    have ad : dAdd S2 (.lst [.str w2]) (.lst ((fsL.map fun c => w2.take 11 ++ [c]).map D.str)) = some (.lst (T.map D.str)) := by
      rw [hT, List.map_append]
      exact add_l (a := [.str w2]) (by rw [List.length_singleton, List.length_map, List.length_map]; decide)
    unfold sAsg
    rw [op_two f1 (fz_of lc) ad]
    rfl
  -- 4: the first new one
  obtain ⟨p, hp⟩ : ∃ p : Codes → Bool, p = fun v => !decide (v ∈ ws) && !decide (v = [115, 101, 108, 102]) := ⟨_, rfl⟩
  obtain ⟨v, rst, hv⟩ : ∃ v rst, T.filter p = v :: rst := by
    cases hf2 : T.filter p with
    | nil =>
      exfalso
      obtain ⟨v, h1, h2, h3⟩ := tries_ne (w := w2) (ws := ws) hws
      rw [← hT] at h1
      have := List.filter_eq_nil_iff.mp hf2 v h1
      rw [hp] at this
      apply this
      show (!decide (v ∈ ws) && !decide (v = [115, 101, 108, 102])) = true
      rw [decide_eq_false h2, decide_eq_false h3]
      rfl
    | cons v rst => exact ⟨v, rst, rfl⟩
  have hvm : v ∈ T.filter p := by rw [hv]; exact .head _
  obtain ⟨hvT, hvp⟩ := List.mem_filter.mp hvm
  rw [hp] at hvp
  have hvp : (!decide (v ∈ ws) && !decide (v = [115, 101, 108, 102])) = true := hvp
  have hv1 : v ∉ ws := fun z => by rw [decide_eq_true z] at hvp; cases hvp
  have hv2 : v ≠ [115, 101, 108, 102] := fun z => by
    rw [decide_eq_true z, Bool.not_true, Bool.and_false] at hvp
    cases hvp
  have cW : cellOf S2 L = some (ws.map D.str) := by rw [hS2, hCW]; exact cellL l2
  have s4 : (sDrop (mApp (mVar 4) (mOp dIxD (mFz (mLc (mIter (mVar 12)) (tgName 13) lt_l_words_4 le_l_words_3 [13])) (mC (D.int 0))))) (wE M many size L rest at_ first alike (some (.int k)) (some (.str w2)) y11 (some (.lst (T.map D.str)))) S2 = .nx (wE M many size L rest at_ first alike (some (.int k)) (some (.str w2)) y11 (some (.lst (T.map D.str)))) (μ2 ++ [.lst ((ws ++ [v]).map D.str)]) := by
    have lc : mLc (mIter (mVar 12)) (tgName 13) lt_l_words_4 le_l_words_3 [13] (wE M many size L rest at_ first alike (some (.int k)) (some (.str w2)) y11 (some (.lst (T.map D.str)))) S2 = .ok ((T.filter p).map D.str) S2 := by
      unfold mLc
      rw [show mIter (mVar 12) (wE M many size L rest at_ first alike (some (.int k)) (some (.str w2)) y11 (some (.lst (T.map D.str)))) S2 = .ok (T.map D.str, none) S2 from rfl]
      show (if (T.map D.str).length ≤ 50000 then _ else _) = _
      rw [if_pos (by rw [List.length_map]; omega)]
      refine lcGo_filter D.str p D.str T fun t _ => ⟨[some M, some (.int many), some (.str fsL), some (.int size), some (.ref L), some (.str rest), some (.int k), some (.int at_), some (.int first), some (.bl alike), some (.str w2), y11, some (.lst (T.map D.str)), some (.str t)], rfl, ?_, fun _ => rfl⟩
      have ni := ni_c (w := t) cW
      have ne : dNe S2 (.str t) (.str [115, 101, 108, 102]) = some (.bl (!decide (t = [115, 101, 108, 102]))) := rfl
      unfold lt_l_words_4
      rw [hp]
      show _ = Rs.ok (!decide (t ∈ ws) && !decide (t = [115, 101, 108, 102])) S2
      cases hd : decide (t ∈ ws) with
      | true =>
        rw [hd] at ni
        simp only [mAnd, mTest, mOp, mVar, mC, Rs.bind, Rs.of, List.getElem?_cons_zero, List.getElem?_cons_succ, ni, Bool.not_true, Bool.false_eq_true, if_false, Bool.false_and]
      | false =>
        rw [hd] at ni
        simp only [mAnd, mTest, mOp, mVar, mC, Rs.bind, Rs.of, List.getElem?_cons_zero, List.getElem?_cons_succ, ni, ne, Bool.not_false, if_true, Bool.true_and]
    have h2 : mOp dIxD (mFz (mLc (mIter (mVar 12)) (tgName 13) lt_l_words_4 le_l_words_3 [13])) (mC (D.int 0)) (wE M many size L rest at_ first alike (some (.int k)) (some (.str w2)) y11 (some (.lst (T.map D.str)))) S2 = .ok (.str v) S2 := by
      refine op_two (fz_of lc) rfl ?_
      rw [hv]
      exact (show dIxD S2 (.lst ((v :: rst).map D.str)) (.int 0) = atI ((v :: rst).map D.str) ((0 : Nat) : Int) from rfl).trans (atI_nat rfl)
    rw [hS2, hCW] at h2 ⊢
    have := app_cell (env := wE M many size L rest at_ first alike (some (.int k)) (some (.str w2)) y11 (some (.lst (T.map D.str)))) (o := mVar 4) l2 l2 rfl h2 rfl (by rw [List.length_map]; omega)
    rw [this, List.map_append]
    rfl
  refine ⟨v, some (.str w2), y11, some (.lst (T.map D.str)), μ2, ?_, ⟨(hTp v hvT).hd, (hTp v hvT).sg, (hTp v hvT).ln, hv2⟩, hv1, w1.trans wz2⟩
  unfold lb_l_words_5
  rw [seq_nx s0, seq_nx s1, seq_nx s2, seq_nx s3]
  exact s4
end
end
end My
namespace My
open PySem PySem.Spec PyProof.Rows L2
section
variable {P : Program} [hP : OkP fileS P] {w : World} {K : PySem.W.Frag} {mg : Str → Option Value} {base : Heap}
section
variable {μ ν : Store} {j n L : Nat} {cs : List Int}
theorem wd_go (hc : cs.length ≤ 63) {many : Int} {size at_ first : Nat} {rest : Codes} {alike : Bool} (hz : size ≤ 10) (hrl : rest.length = size) (hra : ∀ c ∈ rest, c ∈ ayL) (hat : at_ ≤ size) (hf : first < 22) : ∀ (ks : List Nat) (μ : Store) (n : Nat) (ws : List Codes) (x6 x10 x11 x12 : Option D), μ.length = L → Ds μ j (n + 2 * ks.length) → ws.length + ks.length ≤ 20 → ws.Nodup → (∀ w ∈ ws, Wz w) →
    ∃ (ws' : List Codes) (y6 y10 y11 y12 : Option D) (μ' : Store), forGo none (tgName 6) lb_l_words_5 (ks.map fun i : Nat => D.int ((0 : Int) + (i : Int))) (wE (dmD cs j) many size L rest at_ first alike x6 x10 x11 x12) (μ ++ [.lst (ws.map D.str)]) = .nx (wE (dmD cs j) many size L rest at_ first alike y6 y10 y11 y12) (μ' ++ [.lst (ws'.map D.str)]) ∧ ws'.length = ws.length + ks.length ∧ ws'.Nodup ∧ (∀ w ∈ ws', Wz w) ∧ Dz μ j n μ'
  | [], μ, n, ws, x6, x10, x11, x12, _, hs, _, hn, hw => ⟨ws, x6, x10, x11, x12, μ, rfl, rfl, hn, hw, hs.refl⟩
  | k :: ks, μ, n, ws, x6, x10, x11, x12, hL, hs, hl, hn, hw => by
    rw [List.length_cons] at hs hl
    obtain ⟨v, y10, y11, y12, μ1, e1, hv, hvn, w1⟩ := wd_step (cs := cs) (ws := ws) (many := many) (k := (0 : Int) + (k : Int)) (alike := alike) (x10 := x10) (x11 := x11) (x12 := x12) (n := n + 2 * ks.length) hc hL (by omega) hz hrl hra hat hf (by omega) (hs.less (by omega))
    obtain ⟨ws', z6, z10, z11, z12, μ2, e2, h1, h2, h3, w2⟩ := wd_go hc (many := many) (alike := alike) hz hrl hra hat hf ks μ1 n (ws ++ [v]) (some (.int ((0 : Int) + (k : Int)))) y10 y11 y12 (w1.len.trans hL) w1.ds (by rw [List.length_append, List.length_singleton]; omega) (by
      rw [List.nodup_append]
      refine ⟨hn, by simp, fun a ha b hb z => ?_⟩
      rw [List.mem_singleton.mp hb] at z
      exact hvn (z ▸ ha)) fun x hx => by
      rcases List.mem_append.mp hx with hx | hx
      · exact hw x hx
      · rw [List.mem_singleton.mp hx]; exact hv
    refine ⟨ws', z6, z10, z11, z12, μ2, ?_, by rw [h1, List.length_append, List.length_singleton, List.length_cons]; omega, h2, h3, w1.trans w2⟩
    obtain ⟨M, hM⟩ : ∃ M, M = dmD cs j := ⟨_, rfl⟩
    rw [← hM] at e1 e2 ⊢
    rw [List.map_cons, forGo_nx (env1 := wE M many size L rest at_ first alike (some (.int ((0 : Int) + (k : Int)))) x10 x11 x12) rfl e1, e2]
theorem p_words (hc : cs.length ≤ 63) {many : Nat} (hm : many ≤ 20) (hs : Ds μ j (n + 60)) : ∃ (ws : List Codes) (μ' : Store), m_l_words [dmD cs j, .int (many : Int)] μ = .ok (.lst (ws.map D.str)) μ' ∧ ws.length = many ∧ ws.Nodup ∧ (∀ w ∈ ws, Wz w) ∧ Dz μ j n μ' := by
  obtain ⟨L, hL⟩ : ∃ L, L = μ.length := ⟨_, rfl⟩
  obtain ⟨size, μ1, e1, hsz, w1⟩ := p_draw (cs := cs) (b := 11) (n := n + 59) hc hs (by decide)
  have e1 : m_l_draw [dmD cs j, .int 11] μ = .ok (.int (size : Int)) μ1 := e1
  have l1 : μ1.length = L := w1.len.trans hL.symm
  obtain ⟨rest, μ2, e2, hrl, hra, w2⟩ := restW_go (cs := cs) (j := j) (ν := [.lst []]) (x1 := some (.int (many : Int))) (x2 := some (.str fsL)) (x3 := some (.int (size : Int))) (x4 := some (.ref L)) (x5 := none) (x7 := none) (x8 := none) (x9 := none) (x10 := none) (x11 := none) (x12 := none) (x13 := none) hc (rngL 0 size) μ1 (n + 45) (w1.ds.less (by rw [rngN_len]; omega))
  rw [rngN_len] at hrl
  have l2 : μ2.length = L := w2.len.trans l1
  obtain ⟨at_, μ3, e3, hat, w3⟩ := drawB (cs := cs) (ν := [.lst []]) (b := size + 1) (n := n + 44) hc w2.ds (by omega)
  obtain ⟨first, μ4, e4, hf, w4⟩ := drawB (cs := cs) (ν := [.lst []]) (b := 22) (n := n + 43) hc w3.ds (by decide)
  obtain ⟨q, μ5, e5, hq, w5⟩ := drawB (cs := cs) (ν := [.lst []]) (b := 2) (n := n + 42) hc w4.ds (by decide)
  have e4 : m_l_draw [dmD cs j, .int 22] (μ3 ++ [.lst []]) = .ok (.int (first : Int)) (μ4 ++ [.lst []]) := e4
  have e5 : m_l_draw [dmD cs j, .int 2] (μ4 ++ [.lst []]) = .ok (.int (q : Int)) (μ5 ++ [.lst []]) := e5
  have l5 : μ5.length = L := w5.len.trans (w4.len.trans (w3.len.trans l2))
  obtain ⟨ws, y6, y10, y11, y12, μ6, e6, h1, h2, h3, w6⟩ := wd_go (L := L) (cs := cs) (j := j) (many := (many : Int)) (size := size) (at_ := at_) (first := first) (rest := rest) (alike := decide ((q : Int) = 0)) hc (by omega) hrl hra (by omega) hf (List.range many) μ5 n [] none none none none l5 (w5.ds.less (by rw [List.length_range]; omega)) (by rw [List.length_range]; simp only [List.length_nil]; omega) (by simp) (fun w z => nomatch z)
  rw [List.length_range, List.length_nil, Nat.zero_add] at h1
  refine ⟨ws, μ6, ?_, h1, h2, h3, w1.trans (w2.trans (w3.trans (w4.trans (w5.trans w6))))⟩
  obtain ⟨M, hM⟩ : ∃ M, M = dmD cs j := ⟨_, rfl⟩
  rw [← hM] at e1 e2 e3 e4 e5 e6 ⊢
  refine fnD_cell (k := L) (b := b_l_words) (E := [some M, some (.int (many : Int)), none, none, none, none, none, none, none, none, none, none, none, none]) rfl rfl hL.symm (w6.len.trans l5) ?_
  have s0 : (sAsg (mTup (mCons (mC (D.str [97, 98, 99, 101, 102, 103, 104, 105, 106, 108, 109, 110, 111, 112, 113, 115, 116, 117, 118, 119, 120, 121])) (mCons (mCall m_l_draw (mCons (mVar 0) (mCons (mC (D.int 11)) mNil))) (mCons (mCell (mLst mNil)) mNil)))) (tgT 3 (tgCons (tgName 2) (tgCons (tgName 3) (tgCons (tgName 4) tgNil))))) [some M, some (.int (many : Int)), none, none, none, none, none, none, none, none, none, none, none, none] μ = .nx [some M, some (.int (many : Int)), some (.str fsL), some (.int (size : Int)), some (.ref L), none, none, none, none, none, none, none, none, none] (μ1 ++ [.lst []]) := by
    subst l1
    have c1 : mCall m_l_draw (mCons (mVar 0) (mCons (mC (D.int 11)) mNil)) [some M, some (.int (many : Int)), none, none, none, none, none, none, none, none, none, none, none, none] μ = .ok (.int (size : Int)) μ1 := e1
    generalize mCall m_l_draw (mCons (mVar 0) (mCons (mC (D.int 11)) mNil)) = X at c1 ⊢
    simp only [sAsg, mTup, mCons, mC, mNil, mCell, mLst, Rs.bind, c1]
    rfl
  have s1 : (sAsg (mBm dJoin (mC (D.str [])) (mCons (mFz (mLc (mRange1 (mCons (mVar 3) mNil)) (tgName 6) (mC true) le_l_words_1 [6])) mNil)) (tgName 5)) [some M, some (.int (many : Int)), some (.str fsL), some (.int (size : Int)), some (.ref L), none, none, none, none, none, none, none, none, none] (μ1 ++ [.lst []]) = .nx [some M, some (.int (many : Int)), some (.str fsL), some (.int (size : Int)), some (.ref L), some (.str rest), none, none, none, none, none, none, none, none] (μ2 ++ [.lst []]) := by
    have rg : mRange1 (mCons (mVar 3) mNil) [some M, some (.int (many : Int)), some (.str fsL), some (.int (size : Int)), some (.ref L), none, none, none, none, none, none, none, none, none] (μ1 ++ [.lst []]) = .ok (rngL 0 size, none) (μ1 ++ [.lst []]) := rng_of (n := size) (by omega) rfl
    have lc : mLc (mRange1 (mCons (mVar 3) mNil)) (tgName 6) (mC true) le_l_words_1 [6] [some M, some (.int (many : Int)), some (.str fsL), some (.int (size : Int)), some (.ref L), none, none, none, none, none, none, none, none, none] (μ1 ++ [.lst []]) = .ok (rest.map fun c => .str [c]) (μ2 ++ [.lst []]) := by
      unfold mLc
      rw [rg]
      show (if (rngL 0 size).length ≤ 50000 then _ else _) = _
      rw [if_pos (by rw [rngN_len]; omega)]
      exact e2
    have jo := join_ok (μ := μ2 ++ [.lst []]) (s := []) (ls := rest.map fun c => [c]) (by
      have := sum_map_le (f := fun c : Nat => ([c] : Codes).length) (k := 1) (l := rest) (fun _ _ => Nat.le_refl 1)
      rw [List.map_map]
      show (rest.map fun c : Nat => ([c] : Codes).length).sum + (rest.map fun c => [c]).length * 0 ≤ _
      omega)
    rw [joinL_nil, List.map_map, flat1] at jo
    have jo : dJoin (μ2 ++ [.lst []]) (.str []) [.lst (rest.map fun c => .str [c])] = some (.str rest) := jo
    have f := fz_of lc
    generalize mFz (mLc (mRange1 (mCons (mVar 3) mNil)) (tgName 6) (mC true) le_l_words_1 [6]) = X at f ⊢
    simp only [sAsg, mBm, mC, mCons, mNil, Rs.bind, Rs.of, isStr, if_true, f, jo, tgName]
    rfl
  have s2 : (sPar3 7 8 9 (mCons (mCall m_l_draw (mCons (mVar 0) (mCons (mOp dAdd (mVar 3) (mC (D.int 1))) mNil))) (mCons (mCall m_l_draw (mCons (mVar 0) (mCons (mC (D.int 22)) mNil))) (mCons (mOp dEq (mCall m_l_draw (mCons (mVar 0) (mCons (mC (D.int 2)) mNil))) (mC (D.int 0))) mNil)))) [some M, some (.int (many : Int)), some (.str fsL), some (.int (size : Int)), some (.ref L), some (.str rest), none, none, none, none, none, none, none, none] (μ2 ++ [.lst []]) = .nx (wE M many size L rest at_ first (decide ((q : Int) = 0)) none none none none) (μ5 ++ [.lst []]) := by
    have ad : dAdd (μ2 ++ [.lst []]) (.int (size : Int)) (.int 1) = some (.int ((size + 1 : Nat) : Int)) := rfl
    have eq : dEq (μ5 ++ [.lst []]) (.int (q : Int)) (.int 0) = some (.bl (decide ((q : Int) = 0))) := rfl
    simp only [sPar3, mCons, mCall, mOp, mVar, mC, mNil, Rs.bind, Rs.of, List.getElem?_cons_zero, List.getElem?_cons_succ, ad, e3, e4, e5, eq]
    rfl
  have s3 : (sFor (mRange1 (mCons (mVar 1) mNil)) (tgName 6) lb_l_words_5) (wE M many size L rest at_ first (decide ((q : Int) = 0)) none none none none) (μ5 ++ [.lst []]) = .nx (wE M many size L rest at_ first (decide ((q : Int) = 0)) y6 y10 y11 y12) (μ6 ++ [.lst (ws.map D.str)]) := by
    unfold sFor
    have rg : mRange1 (mCons (mVar 1) mNil) (wE M many size L rest at_ first (decide ((q : Int) = 0)) none none none none) (μ5 ++ [.lst []]) = .ok (rngL 0 many, none) (μ5 ++ [.lst []]) := rng_of (n := many) (by omega) rfl
    rw [rg]
    exact e6
  unfold b_l_words
  rw [seq_nx s0, seq_nx s1, seq_nx s2, seq_nx s3]
  rfl
end
end
end My
namespace My
open PySem PySem.Spec PyProof.Rows L2
section
variable {P : Program} [hP : OkP fileS P] {w : World} {K : PySem.W.Frag} {mg : Str → Option Value} {base : Heap}
theorem isV_len {v : Codes} (h : isV v = true) : 1 ≤ v.length ∧ v.length ≤ 64 ∧ asc v := by
  obtain ⟨h1, h2⟩ := isV_iff.mp h
  have h3 := isP_iff.mp h2
  exact ⟨h1, h3.1, asc_of fun c hc => by
    have := h3.2 c hc
    omega⟩
end
end My
namespace My
open PySem PySem.Spec PyProof.Rows L2
section
variable {P : Program} [hP : OkP fileS P] {w : World} {K : PySem.W.Frag} {mg : Str → Option Value} {base : Heap}
section
variable {μ : Store} {w : Codes} {T : Tb} {env : En} {o : Mo D}
theorem sortO_perm {α : Type} (lt : α → α → Bool) : ∀ xs : List α, (sortO lt xs).Perm xs
  | [] => List.Perm.refl _
  | x :: xs => (insO_perm x _).trans ((sortO_perm lt xs).cons x)
theorem sortT_perm (ks : List Codes) : (sortT ks).Perm ks := sortO_perm _ ks
theorem srtE_mem {p : Codes × List Codes} (h : p ∈ srtE T) : p.1 ∈ T.map (·.1) ∧ p.2 = valsT T p.1 ∧ p.2 ≠ [] := by
  obtain ⟨w, hw, rfl⟩ := List.mem_map.mp h
  obtain ⟨h1, h2⟩ := List.mem_filter.mp hw
  refine ⟨(sortT_perm _).mem_iff.mp h1, rfl, fun z => ?_⟩
  have z : valsT T w = [] := z
  rw [z] at h2
  exact absurd h2 (by decide)
theorem srtE_ok (h : TbOk T) : TbOk (srtE T) := by
  have pm : ∀ p ∈ srtE T, (p.1, p.2) ∈ T := fun p hp => by
    obtain ⟨h1, h2, _⟩ := srtE_mem hp
    obtain ⟨q, hq, e⟩ := List.mem_map.mp h1
    have e : q.1 = p.1 := e
    rw [h2, ← e, valsT_mem h.nd hq]
    exact hq
  refine ⟨?_, fun p hp => h.wd _ (pm p hp), fun p hp => h.vl _ (pm p hp), ?_, fun p hp => h.sz _ (pm p hp)⟩
  · rw [srtE_keys]
    exact ((sortT_perm _).nodup_iff.mpr h.nd).filter _
  · unfold srtE
    rw [List.length_map]
    refine Nat.lt_of_le_of_lt (List.length_filter_le _ _) ?_
    rw [(sortT_perm _).length_eq, List.length_map]
    exact h.ln
theorem srtE_vals (h : TbOk T) (w : Codes) : valsT (srtE T) w = valsT T w := by
  by_cases hw : w ∈ (srtE T).map (·.1)
  · obtain ⟨p, hp, rfl⟩ := List.mem_map.mp hw
    rw [valsT_mem (srtE_ok h).nd hp]
    exact (srtE_mem hp).2.1
  · rw [valsT_not hw]
    rw [srtE_keys] at hw
    by_cases h2 : w ∈ T.map (·.1)
    · cases e : valsT T w with
      | nil => rfl
      | cons a r => exact absurd (List.mem_filter.mpr ⟨(sortT_perm _).mem_iff.mpr h2, by rw [e]; rfl⟩) hw
    · rw [valsT_not h2]
theorem namesOf_strs : ∀ ks : List Codes, namesOf (ks.map D.str) = some ks
  | [] => rfl
  | k :: ks => by rw [List.map_cons, namesOf, namesOf_strs ks]; rfl
theorem dE_keys : (T.map fun p => D.str p.1) = (T.map (·.1)).map D.str := by rw [List.map_map]; rfl
theorem sorted_T (h : TbOk T) : lSortedU μ [dE T] = some ((sortT (T.map (·.1))).map D.str) := by
  unfold lSortedU
  show (match dkD μ (dE T) with
    | some r => (match namesOf r.1 with
      | some ns => if ns.length < 64 then some ((sortT ns).map D.str) else none
      | none => none)
    | none => lSorted μ [dE T]) = _
  show (match namesOf (T.map fun p => D.str p.1) with
      | some ns => if ns.length < 64 then some ((sortT ns).map D.str) else none
      | none => none) = _
  rw [dE_keys, namesOf_strs]
  exact if_pos (by rw [List.length_map]; exact h.ln)
theorem dc_go {ns : List Codes} (h : TbOk T) {x2 x3 : Option D} : ∀ (ks done : List Codes), (∀ k ∈ ks, k ∈ T.map (·.1)) → (done ++ ks).Nodup →
    dcGo none (tgName 1) (mTest (mOp dNe (mOp dIxD (mVar 0) (mVar 1)) (mTup mNil))) le_need_table_3 le_need_table_4 [some (dE T), none, x2, x3] (ks.map D.str)
      ((done.filter fun w => !decide (valsT T w = [])).map D.str) ((done.filter fun w => !decide (valsT T w = [])).map fun w => tupS (valsT T w)) μ =
      .ok (((done ++ ks).filter fun w => !decide (valsT T w = [])).map D.str, ((done ++ ks).filter fun w => !decide (valsT T w = [])).map fun w => tupS (valsT T w)) μ
  | [], done, _, _ => by
    rw [List.append_nil]
    rfl
  | k :: ks, done, hk, hn => by
    have ix := ix_T (μ := μ) h.nd (hk k (.head _))
    have va : ∀ v ∈ valsT T k, asc v := fun v hv => by
      obtain ⟨p, hp, e⟩ := List.mem_map.mp (hk k (.head _))
      have e : p.1 = k := e
      rw [← e, valsT_mem h.nd hp] at hv
      exact (isV_len (h.vl p hp v hv)).2.2
    have ne : dNe μ (tupS (valsT T k)) (.tup []) = some (.bl (!decide (valsT T k = []))) := by
      have b := bEq_tups (μ := μ) (xs := valsT T k) (ys := []) va (fun x hx => by cases hx)
      unfold dNe
      show (bEq μ (tupS (valsT T k)) (.tup (([] : List Codes).map D.str))).map (fun b => D.bl (!b)) = _
      rw [b]
      rfl
    have hkd : k ∉ done := fun z => by
      have := (List.nodup_append.mp hn).2.2 k z k (.head _)
      exact this rfl
    have ih := dc_go (ns := ns) h (x2 := x2) (x3 := x3) ks (done ++ [k]) (fun q hq => hk q (.tail _ hq)) (by rw [List.append_assoc]; exact hn)
    rw [List.append_assoc] at ih
    have tst : mTest (mOp dNe (mOp dIxD (mVar 0) (mVar 1)) (mTup mNil)) [some (dE T), some (.str k), x2, x3] μ = .ok (!decide (valsT T k = [])) μ := by
      have tp : mTup mNil [some (dE T), some (.str k), x2, x3] μ = .ok (.tup []) μ := rfl
      simp only [mTest, mOp, mVar, Rs.bind, Rs.of, List.getElem?_cons_zero, List.getElem?_cons_succ, ix, tp, ne]
    have e4 : le_need_table_4 [some (dE T), some (.str k), x2, x3] μ = .ok (tupS (valsT T k)) μ := by
      unfold le_need_table_4
      simp only [mOp, mVar, Rs.bind, Rs.of, List.getElem?_cons_zero, List.getElem?_cons_succ, ix]
    rw [List.map_cons]
    conv => lhs; unfold dcGo
    have tg : tgName 1 (.str k) [some (dE T), none, x2, x3] = some [some (dE T), some (.str k), x2, x3] := rfl
    have e3 : le_need_table_3 [some (dE T), some (.str k), x2, x3] μ = .ok (.str k) μ := rfl
    simp only [gdOk, if_true, tg, tst, Rs.bind]
    have fl : (done ++ [k]).filter (fun w => !decide (valsT T w = [])) = done.filter (fun w => !decide (valsT T w = [])) ++ (if (!decide (valsT T k = [])) = true then [k] else []) := by
      rw [List.filter_append, List.filter_cons, List.filter_nil]
    by_cases g : valsT T k = []
    · rw [decide_eq_true g] at fl ⊢
      simp only [Bool.not_true, Bool.false_eq_true, if_false, List.append_nil] at fl ⊢
      rw [fl] at ih
      exact ih
    · rw [decide_eq_false g] at fl ⊢
      simp only [Bool.not_false, if_true] at fl ⊢
      rw [fl, List.map_append, List.map_append] at ih
      have pk := putK_new (w := k) (ks := done.filter fun w => !decide (valsT T w = [])) (xs := (done.filter fun w => !decide (valsT T w = [])).map fun w => tupS (valsT T w)) (d := tupS (valsT T k)) fun z => hkd (List.mem_filter.mp z).1
      rw [List.map_append] at pk
      simp only [e3, e4, pk]
      exact ih
theorem items_go {x0 x1 x2 x3 : Option D} : ∀ {T : Tb}, (∀ p ∈ T, isW p.1 = true) → (∀ p ∈ T, ∀ v ∈ p.2, isV v = true) → (∀ p ∈ T, p.2.length ≤ 1000) → ∀ (x1 x2 : Option D),
    ∃ y1 y2, forGo none (tgT 2 (tgCons (tgName 1) (tgCons (tgName 2) tgNil))) lb_need_table_2 (itmL (T.map fun p => D.str p.1) (T.map fun p => tupS p.2)) [x0, x1, x2, x3] μ = .nx [x0, y1, y2, x3] μ
  | [], _, _, _, x1, x2 => ⟨x1, x2, rfl⟩
  | p :: T, hw, hv, hs, x1, x2 => by
    obtain ⟨y1, y2, ih⟩ := items_go (x0 := x0) (x1 := x1) (x2 := x2) (x3 := x3) (T := T) (fun q hq => hw q (.tail _ hq)) (fun q hq => hv q (.tail _ hq)) (fun q hq => hs q (.tail _ hq)) (some (.str p.1)) (some (tupS p.2))
    refine ⟨y1, y2, ?_⟩
    have pw := p_is_word (μ := μ) (hw p (.head _))
    have it : dIsiC ctab μ [tupS p.2, .ty "tuple"] = some (.bl true) := rfl
    have lc : mLc (mIter (mVar 2)) (tgName 3) (mC true) le_need_table_1 [3] [x0, some (.str p.1), some (tupS p.2), x3] μ = .ok (p.2.map fun _ => .bl true) μ := by
      refine lc_map D.str (fun _ => .bl true) (as := p.2) rfl (by have := hs p (.head _); omega) fun v hvm => ⟨[x0, some (.str p.1), some (tupS p.2), some (.str v)], rfl, rfl, ?_⟩
      unfold le_need_table_1
      have pv := p_is_value (μ := μ) (hv p (.head _) v hvm)
      simp only [mCall, mVar, mCons, mNil, Rs.bind, List.getElem?_cons_zero, List.getElem?_cons_succ, pv]
    have al := all_true p.2 μ
    have bd : lb_need_table_2 [x0, some (.str p.1), some (tupS p.2), x3] μ = .nx [x0, some (.str p.1), some (tupS p.2), x3] μ := by
      unfold lb_need_table_2
      refine sif_n ?_
      simp only [mOr, mNot, mTest, mCall, mCb, mC, mFz, mVar, mCons, mNil, Rs.bind, Rs.of, List.getElem?_cons_zero, List.getElem?_cons_succ, pw, it, lc, al, Bool.not_true, Bool.false_eq_true, if_false]
    have e : itmL ((p :: T).map fun p => D.str p.1) ((p :: T).map fun p => tupS p.2) = .tup [.str p.1, tupS p.2] :: itmL (T.map fun p => D.str p.1) (T.map fun p => tupS p.2) := by
      first
        | rfl
        | simp [itmL]
    rw [e, forGo_nx (env1 := [x0, some (.str p.1), some (tupS p.2), x3]) rfl bd, ih]
theorem p_need_table (h : TbOk T) : m_need_table [dE T] μ = .ok (dE (srtE T)) μ := by
  have is : dIsiC ctab μ [dE T, .ty "dict"] = some (.bl true) := rfl
  unfold m_need_table fnKX b_need_table
  rw [if_pos (by rfl)]
  rw [show (List.map some [dE T] ++ List.replicate 3 none) = [some (dE T), none, none, none] from rfl]
  have s0 : ∀ k : MS, sSeq (sIf (mNot (mTest (mCb (dIsiC ctab) (mCons (mVar 0) (mCons (mC (D.ty "dict")) mNil))))) (sRaise "BadEntry" ["given"] (mCons (mVar 0) mNil)) sNext) k [some (dE T), none, none, none] μ = k [some (dE T), none, none, none] μ := fun k => by
    refine seq_nx (sif_n ?_)
    simp only [mNot, mTest, mCb, mC, mVar, mCons, mNil, Rs.bind, Rs.of, List.getElem?_cons_zero, is, Bool.not_true]
  rw [s0]
  obtain ⟨y1, y2, g⟩ := items_go (μ := μ) (x0 := some (dE T)) (x1 := none) (x2 := none) (x3 := none) h.wd h.vl h.sz none none
  have s1 : (sForIX (mVar 0) (tgT 2 (tgCons (tgName 1) (tgCons (tgName 2) tgNil))) lb_need_table_2) [some (dE T), none, none, none] μ = .nx [some (dE T), y1, y2, none] μ := by
    unfold sForIX
    have v0 : mVar 0 [some (dE T), none, none, none] μ = .ok (.dic false (T.map fun p => D.str p.1) (T.map fun p => tupS p.2)) μ := rfl
    rw [v0]
    simp only
    rw [g]
  rw [seq_nx s1]
  have it : mIter (mFz (mCc lSortedU (mCons (mVar 0) mNil))) [some (dE T), y1, y2, none] μ = .ok ((sortT (T.map (·.1))).map D.str, none) μ := by
    have so := sorted_T (μ := μ) h
    simp only [mIter, mFz, mCc, mVar, mCons, mNil, Rs.bind, Rs.of, List.getElem?_cons_zero, so]
    rfl
  have dg := dc_go (μ := μ) (ns := []) h (x2 := y2) (x3 := none) (sortT (T.map (·.1))) [] (fun k hk => (sortT_perm _).mem_iff.mp hk) ((sortT_perm _).nodup_iff.mpr h.nd)
  have dc : mDc (mIter (mFz (mCc lSortedU (mCons (mVar 0) mNil)))) (tgName 1) (mTest (mOp dNe (mOp dIxD (mVar 0) (mVar 1)) (mTup mNil))) le_need_table_3 le_need_table_4 [1] [some (dE T), y1, y2, none] μ = .ok (((sortT (T.map (·.1))).filter fun w => !decide (valsT T w = [])).map D.str, ((sortT (T.map (·.1))).filter fun w => !decide (valsT T w = [])).map fun w => tupS (valsT T w)) μ := by
    unfold mDc
    rw [it]
    show (if ((sortT (T.map (·.1))).map D.str).length ≤ 50000 then _ else _) = _
    rw [if_pos (by rw [List.length_map, (sortT_perm _).length_eq, List.length_map]; have := h.ln; omega)]
    exact dg
  have e : mFzD (mDc (mIter (mFz (mCc lSortedU (mCons (mVar 0) mNil)))) (tgName 1) (mTest (mOp dNe (mOp dIxD (mVar 0) (mVar 1)) (mTup mNil))) le_need_table_3 le_need_table_4 [1]) [some (dE T), y1, y2, none] μ = .ok (dE (srtE T)) μ := by
    unfold mFzD
    rw [dc]
    show Rs.ok (D.dic false _ _) μ = _
    unfold dE srtE
    rw [List.map_map, List.map_map]
    rfl
  unfold sRet
  rw [e]
end
end
end My
namespace My
open PySem PySem.Spec PyProof.Rows L2
section
variable {P : Program} [hP : OkP fileS P] {w : World} {K : PySem.W.Frag} {mg : Str → Option Value} {base : Heap}
section
variable {o : Mo D} {env : En} {c : String} {ns : List String} {ds : List D}
theorem get_last {μ : Store} {x : Cell} : (μ ++ [x])[μ.length]? = some x := by simp
theorem set_last {μ : Store} {x y : Cell} : (μ ++ [x]).set μ.length y = μ ++ [y] := by simp
theorem setF_last {f : String} {e : Mo D} {y : D} (he : e env (μ ++ [.obj c ns ds]) = .ok y (μ ++ [.obj c ns ds])) (ho : o env (μ ++ [.obj c ns ds]) = .ok (.ref μ.length) (μ ++ [.obj c ns ds])) (hp : pureD y = true) (hn : ns.length < 900) (hc : ctab.names.contains c = true) (hf : ctab.fields.contains f = true) :
    sSetF ctab f e o env (μ ++ [.obj c ns ds]) = .nx env (μ ++ [.obj c (putC f y ns ds).1 (putC f y ns ds).2]) := by
  unfold sSetF
  simp only [he, ho, get_last]
  rw [if_pos ⟨hp, hn, hc, hf⟩, set_last]
end
end
end My
namespace My
open PySem PySem.Spec PyProof.Rows L2
section
variable {P : Program} [hP : OkP fileS P] {w : World} {K : PySem.W.Frag} {mg : Str → Option Value} {base : Heap}
section
variable {c : String} {as : Mo (List D)} {env : En} {μ : Store} {ns : List String} {xs ds : List D}
theorem make_of {fm : Mo D} {init : List D → Store → Rs D} (h1 : fm env μ = .ok (.cls c) μ) (h2 : as env μ = .ok ds μ) (h3 : init (.ref μ.length :: ds) (μ ++ [.obj c [] []]) = .ok .non (μ ++ [.obj c ns xs])) : mMakeA false c init fm as env μ = .ok (.obj c ns xs) μ := by
  unfold mMakeA
  simp only [h1, Rs.nr, Rs.bind, if_true, h2, h3, get_last, Bool.false_eq_true, if_false, frzC, List.take_left']
theorem take_last {x y : Cell} : (μ ++ [x]).take (μ ++ [y]).length = μ ++ [x] := List.take_of_length_le (by simp)
end
section
variable {μ : Store} {w tx nm : Codes} {T : Tb} {env : En} {o : Mo D} {LV OR NM : D}
/-- a name object -/
abbrev nameD (tx : Codes) (LV OR : D) : D := .obj "Name" ["own_text", "own_leaves", "own_order"] [.str tx, LV, OR]
def keyE (tx : Codes) (T : Tb) : D := .tup [.str tx, .tup (T.map fun p => .tup [.str p.1, tupS p.2])]
abbrev fnsE : List String := ["own_name", "own_table", "own_key"]
/-- an entry with this table -/
def entD (NM : D) (tx : Codes) (T : Tb) : D := .obj "Entry" fnsE [NM, dE T, keyE tx T]
theorem pure_strs : ∀ l : List Codes, pureL (l.map D.str) = true
  | [] => rfl
  | x :: l => by
    have := pure_strs l
    simp only [List.map_cons, pureL, pureD, this, Bool.and_self]
theorem pure_tups : ∀ T : Tb, pureL (T.map fun p => tupS p.2) = true
  | [] => rfl
  | p :: T => by
    have := pure_tups T
    have h2 := pure_strs p.2
    simp only [List.map_cons, pureL, pureD, this, h2, Bool.and_self]
theorem pure_rows : ∀ T : Tb, pureL (T.map fun p => D.tup [.str p.1, tupS p.2]) = true
  | [] => rfl
  | p :: T => by
    have := pure_rows T
    have h2 := pure_strs p.2
    simp only [List.map_cons, pureL, pureD, this, h2, Bool.and_self]
theorem pure_dE : pureD (dE T) = true := by
  have h1 := pure_strs (T.map (·.1))
  have h2 := pure_tups T
  have e := dE_keys (T := T)
  unfold dE
  rw [e]
  simp [pureD, h1, h2]
theorem need_same : m_need_name [nameD tx LV OR] μ = .ok (nameD tx LV OR) μ := by
  unfold m_need_name fnKX b_need_name
  rw [if_pos (by rfl)]
  have t : mTest (mCb (dIsiC ctab) (mCons (mVar 0) (mCons (mC (D.cls "Name")) mNil))) (List.map some [nameD tx LV OR] ++ List.replicate 0 none) μ = .ok true μ := by kernel_rfl
  rw [seq_rt (a := sIf _ _ _) (d := nameD tx LV OR) (ν := μ) (by rw [sif_t t]; rfl)]
theorem i_Entry (h : TbOk T) (hp : pureD (nameD tx LV OR) = true) : m_Entry___init [.ref μ.length, nameD tx LV OR, dE T] (μ ++ [.obj "Entry" [] []]) = .ok .non (μ ++ [.obj "Entry" fnsE [nameD tx LV OR, dE (srtE T), keyE tx (srtE T)]]) := by
  have hcn : ctab.names.contains "Entry" = true := by decide +kernel
  obtain ⟨NM, hNM⟩ : ∃ NM, NM = nameD tx LV OR := ⟨_, rfl⟩
  obtain ⟨T2, hT2⟩ : ∃ T2, T2 = srtE T := ⟨_, rfl⟩
  have nt := fun μ => p_need_table (μ := μ) h
  have ns := fun μ => need_same (μ := μ) (tx := tx) (LV := LV) (OR := OR)
  have ok2 := srtE_ok h
  rw [← hT2] at ok2 ⊢
  simp only [← hT2] at nt
  rw [← hNM] at hp ⊢
  simp only [← hNM] at ns
  obtain ⟨E, hE⟩ : ∃ E : En, E = [some (.ref μ.length), some NM, some (dE T), none] := ⟨_, rfl⟩
  have v0 : ∀ ν, mVar 0 E ν = .ok (.ref μ.length) ν := fun _ => by rw [hE]; rfl
  have v1 : ∀ ν, mVar 1 E ν = .ok NM ν := fun _ => by rw [hE]; rfl
  have v2 : ∀ ν, mVar 2 E ν = .ok (dE T) ν := fun _ => by rw [hE]; rfl
  have s0 : (sSetF ctab "own_name" (mCall m_need_name (mCons (mVar 1) mNil)) (mVar 0)) E (μ ++ [.obj "Entry" [] []]) = .nx E (μ ++ [.obj "Entry" ["own_name"] [NM]]) :=
    setF_last (ns := []) (ds := []) (by simp only [mCall, mCons, mNil, Rs.bind, v1, ns]) (v0 _) hp (by decide) hcn (by decide +kernel)
  have s1 : (sSetF ctab "own_table" (mCall m_need_table (mCons (mVar 2) mNil)) (mVar 0)) E (μ ++ [.obj "Entry" ["own_name"] [NM]]) = .nx E (μ ++ [.obj "Entry" ["own_name", "own_table"] [NM, dE T2]]) :=
    setF_last (ns := ["own_name"]) (ds := [NM]) (by simp only [mCall, mCons, mNil, Rs.bind, v2, nt]) (v0 _) pure_dE (by decide) hcn (by decide +kernel)
  obtain ⟨ν, hν⟩ : ∃ ν, ν = μ ++ [.obj "Entry" ["own_name", "own_table"] [NM, dE T2]] := ⟨_, rfl⟩
  have cl : clsOf ν (.ref μ.length) = some ("Entry", ["own_name", "own_table"], [NM, dE T2]) := by
    rw [hν]
    unfold clsOf
    simp only [get_last]
  have fN : ∀ env, mVar 0 env ν = .ok (.ref μ.length) ν → mFld ctab "own_name" (mVar 0) env ν = .ok NM ν := fun env v => by
    unfold mFld
    rw [v]
    show (match clsOf ν (.ref μ.length) with
      | some (c, ns, ds) => if ctab.names.contains c = true ∧ ctab.fields.contains "own_name" = true then Rs.of (getF "own_name" ns ds) ν else .no
      | none => .no) = _
    rw [cl]
    show (if ctab.names.contains "Entry" = true ∧ ctab.fields.contains "own_name" = true then Rs.of (getF "own_name" ["own_name", "own_table"] [NM, dE T2]) ν else .no) = _
    rw [if_pos ⟨hcn, by decide +kernel⟩]
    rfl
  have fT : ∀ env, mVar 0 env ν = .ok (.ref μ.length) ν → mFld ctab "own_table" (mVar 0) env ν = .ok (dE T2) ν := fun env v => by
    unfold mFld
    rw [v]
    show (match clsOf ν (.ref μ.length) with
      | some (c, ns, ds) => if ctab.names.contains c = true ∧ ctab.fields.contains "own_table" = true then Rs.of (getF "own_table" ns ds) ν else .no
      | none => .no) = _
    rw [cl]
    show (if ctab.names.contains "Entry" = true ∧ ctab.fields.contains "own_table" = true then Rs.of (getF "own_table" ["own_name", "own_table"] [NM, dE T2]) ν else .no) = _
    rw [if_pos ⟨hcn, by decide +kernel⟩]
    rfl
  have f1 := fN E (v0 ν)
  have f2 := fT E (v0 ν)
  have tx1 : (mPropP ctab ["Name"] m_Name_text (mFld ctab "own_name" (mVar 0))) E ν = .ok (.str tx) ν := by
    have a2 : mPropP ctab ["Name"] m_Name_text (mFld ctab "own_name" (mVar 0)) E ν = .ok (.str tx) ν := by
      unfold mPropP
      rw [f1, hNM]
      show (if (["Name"] : List String).contains "Name" = true ∧ ctab.names.contains "Name" = true then m_Name_text [nameD tx LV OR] ν else .no) = _
      rw [if_pos ⟨by decide +kernel, by decide +kernel⟩]
      kernel_rfl
    exact a2
  have lc : mLc (mKeys (mFld ctab "own_table" (mVar 0))) (tgName 3) (mC true) le_Entry___init_1 [3] E ν = .ok (T2.map fun p => D.tup [.str p.1, tupS p.2]) ν := by
    have it : mKeys (mFld ctab "own_table" (mVar 0)) E ν = .ok (T2.map fun p => D.str p.1, none) ν := by
      unfold mKeys
      rw [f2]
      rfl
    refine lc_map (fun p : Codes × List Codes => D.str p.1) (fun p => D.tup [.str p.1, tupS p.2]) it (by have := ok2.ln; omega) fun p hpm => ⟨[some (.ref μ.length), some NM, some (dE T), some (.str p.1)], by rw [hE]; rfl, rfl, ?_⟩
    have f3 := fT [some (.ref μ.length), some NM, some (dE T), some (.str p.1)] rfl
    have ix := ix_T (μ := ν) ok2.nd (w := p.1) (List.mem_map.mpr ⟨p, hpm, rfl⟩)
    rw [valsT_mem ok2.nd hpm] at ix
    have v3 : mVar 3 [some (.ref μ.length), some NM, some (dE T), some (.str p.1)] ν = .ok (.str p.1) ν := rfl
    unfold le_Entry___init_1
    simp only [mTup, mOp, mCons, mNil, Rs.bind, Rs.of, v3, f3, ix, List.length_cons, List.length_nil, Nat.reduceAdd, Nat.reduceLeDiff, if_true]
  have s2 : (sSetF ctab "own_key" (mTup (mCons (mPropP ctab ["Name"] m_Name_text (mFld ctab "own_name" (mVar 0))) (mCons (mCb dTuple (mCons (mFz (mLc (mKeys (mFld ctab "own_table" (mVar 0))) (tgName 3) (mC true) le_Entry___init_1 [3])) mNil)) mNil))) (mVar 0)) E (μ ++ [.obj "Entry" ["own_name", "own_table"] [NM, dE T2]]) = .nx E (μ ++ [.obj "Entry" fnsE [NM, dE T2, keyE tx T2]]) := by
    refine setF_last (ns := ["own_name", "own_table"]) (ds := [NM, dE T2]) (y := keyE tx T2) ?_ (v0 _) ?_ (by decide) hcn (by decide +kernel)
    · rw [← hν]
      have dt : dTuple ν [.lst (T2.map fun p => D.tup [.str p.1, tupS p.2])] = some (.tup (T2.map fun p => D.tup [.str p.1, tupS p.2])) := rfl
      have q2 : mCb dTuple (mCons (mFz (mLc (mKeys (mFld ctab "own_table" (mVar 0))) (tgName 3) (mC true) le_Entry___init_1 [3])) mNil) E ν = .ok (.tup (T2.map fun p => D.tup [.str p.1, tupS p.2])) ν := by
        simp only [mCb, mCons, mNil, mFz, Rs.bind, Rs.of, lc, dt]
      unfold mTup
      rw [cons_ok tx1 (cons_ok q2 rfl)]
      rfl
    · have := pure_rows T2
      unfold keyE
      simp only [pureD, pureL, this, Bool.and_self]
  unfold m_Entry___init fnDX b_Entry___init
  rw [if_pos (by rfl)]
  rw [show (List.map some [D.ref μ.length, NM, dE T] ++ List.replicate 1 none) = E from by rw [hE]; rfl]
  rw [seq_nx s0, seq_nx s1, s2]
  show Rs.ok D.non ((μ ++ [Cell.obj "Entry" fnsE [NM, dE T2, keyE tx T2]]).take (μ ++ [Cell.obj "Entry" [] []]).length) = _
  rw [take_last]
/-- a name of a keyword parameter is no word -/
theorem word_free {w : Codes} (h : isW w = true) : (!(["self", "entry_name"] : List Str).contains (SX.S w)) = true := by
  obtain ⟨_, h2, h3⟩ := isW_iff.mp h
  have n1 : SX.S w ≠ ("self" : Str) := fun z => h3 (by
    have e : ("self" : Str) = SX.S [115, 101, 108, 102] := by decide +kernel
    rw [e] at z
    exact SX.S_inj z)
  have n2 : SX.S w ≠ ("entry_name" : Str) := fun z => by
    have e : ("entry_name" : Str) = SX.S [101, 110, 116, 114, 121, 95, 110, 97, 109, 101] := by decide +kernel
    rw [e] at z
    have := SX.S_inj z
    have m : 95 ∈ w := by rw [this]; simp
    have := h2 95 m
    omega
  have : (["self", "entry_name"] : List Str).contains (SX.S w) = false := by
    rw [List.contains_eq_mem]
    simp [n1, n2]
  rw [this]
  rfl
theorem p_Entry_ofX {x : D} (h : TbOk T) (hN : m_need_name [x] μ = .ok (nameD tx LV OR) μ) (hp : pureD (nameD tx LV OR) = true) : m_Entry_of [.cls "Entry", x, dE T] μ = .ok (entD (nameD tx LV OR) tx (srtE (srtE T))) μ := by
  have ok2 := srtE_ok h
  have nt := p_need_table (μ := μ) h
  have ie := i_Entry (μ := μ) (tx := tx) (LV := LV) (OR := OR) ok2 hp
  obtain ⟨NM, hNM⟩ : ∃ NM, NM = nameD tx LV OR := ⟨_, rfl⟩
  rw [← hNM] at hN ie ⊢
  obtain ⟨T2, hT2⟩ : ∃ T2, T2 = srtE T := ⟨_, rfl⟩
  rw [← hT2] at ok2 nt ie ⊢
  unfold m_Entry_of fnKX b_Entry_of
  rw [if_pos (by rfl)]
  rw [show (List.map some [D.cls "Entry", x, dE T] ++ List.replicate 2 none) = [some (.cls "Entry"), some x, some (dE T), none, none] from rfl]
  have s0 : (sAsgX (mCallX m_need_name (mCons (mVar 1) mNil)) (tgName 3)) [some (.cls "Entry"), some x, some (dE T), none, none] μ = .nx [some (.cls "Entry"), some x, some (dE T), some NM, none] μ := by
    simp only [sAsgX, mCallX, mCons, mNil, mVar, Rs.nr, Rs.bind, List.getElem?_cons_zero, List.getElem?_cons_succ, hN, tgName]
    rfl
  have s1 : (sAsgX (mCallX m_need_table (mCons (mVar 2) mNil)) (tgName 4)) [some (.cls "Entry"), some x, some (dE T), some NM, none] μ = .nx [some (.cls "Entry"), some x, some (dE T), some NM, some (dE T2)] μ := by
    simp only [sAsgX, mCallX, mCons, mNil, mVar, Rs.nr, Rs.bind, List.getElem?_cons_zero, List.getElem?_cons_succ, nt, tgName]
    rfl
  have kw : (mKw 2 ["self", "entry_name"] (mNrG (mCons (mVar 3) mNil)) (mVar 4)) [some (.cls "Entry"), some x, some (dE T), some NM, some (dE T2)] μ = .ok [NM, dE T2] μ := by
    have a : mNrG (mCons (mVar 3) mNil) [some (.cls "Entry"), some x, some (dE T), some NM, some (dE T2)] μ = .ok [NM] μ := rfl
    unfold mKw
    rw [a]
    show (match namesOf (T2.map fun p : Codes × List Codes => D.str p.1) with
      | some ns => if [NM].length + 1 = 2 ∧ ns.Nodup ∧ (ns.all fun l => !(["self", "entry_name"] : List Str).contains (SX.S l)) = true then Rs.ok ([NM] ++ [D.dic false (ns.map D.str) (T2.map fun p : Codes × List Codes => tupS p.2)]) μ else .no
      | none => .no) = _
    rw [dE_keys, namesOf_strs]
    show (if [NM].length + 1 = 2 ∧ (T2.map (·.1)).Nodup ∧ ((T2.map (·.1)).all fun l => !(["self", "entry_name"] : List Str).contains (SX.S l)) = true then Rs.ok ([NM] ++ [D.dic false ((T2.map (·.1)).map D.str) (T2.map fun p : Codes × List Codes => tupS p.2)]) μ else .no) = _
    rw [if_pos ⟨rfl, ok2.nd, List.all_eq_true.mpr fun l hl => by
      obtain ⟨p, hp, rfl⟩ := List.mem_map.mp hl
      exact word_free (ok2.wd p hp)⟩, ← dE_keys]
    rfl
  have mk := make_of (c := "Entry") (fm := mVar 0) (init := m_Entry___init) (env := [some (.cls "Entry"), some x, some (dE T), some NM, some (dE T2)]) (μ := μ) rfl kw ie
  rw [seq_nx s0, seq_nx s1]
  unfold sRetX
  rw [mk]
  rfl
end
end
end My
namespace My
open PySem PySem.Spec PyProof.Rows L2
section
variable {P : Program} [hP : OkP fileS P] {w : World} {K : PySem.W.Frag} {mg : Str → Option Value} {base : Heap}
section
variable {μ : Store} {w : Codes} {T T' : Tb}
theorem sortT_congr {a b : List Codes} (h : a.Perm b) : sortT a = sortT b := sortO_uniq tLt_swo (sortO_ok tLt_swo a).1 (tLt_stb ((sortT_perm a).trans h))
theorem sort_ext {a b : List Codes} (ha : a.Nodup) (hb : b.Nodup) (h : ∀ x, x ∈ a ↔ x ∈ b) : sortT a = sortT b := sortT_congr ((List.perm_ext_iff_of_nodup ha hb).mpr h)
theorem sort_filter (p : Codes → Bool) (ks : List Codes) : (sortT ks).filter p = sortT (ks.filter p) :=
  sortO_uniq tLt_swo ((sortO_ok tLt_swo ks).1.filter p) (tLt_stb ((sortT_perm ks).filter p))
/-- the words with values -/
def nek (T : Tb) : List Codes := (T.map (·.1)).filter fun w => !decide (valsT T w = [])
theorem nek_nd (h : (T.map (·.1)).Nodup) : (nek T).Nodup := h.filter _
theorem nek_mem (w : Codes) : w ∈ nek T ↔ valsT T w ≠ [] := by
  unfold nek
  rw [List.mem_filter]
  constructor
  · rintro ⟨_, h⟩ z
    have z : valsT T w = [] := z
    rw [z] at h
    cases h
  · intro h
    refine ⟨?_, by rw [decide_eq_false h]; rfl⟩
    by_cases z : w ∈ T.map (·.1)
    · exact z
    · exact absurd (valsT_not z) h
theorem srtE_eq : srtE T = (sortT (nek T)).map fun w => (w, valsT T w) := by
  unfold srtE nek
  rw [sort_filter]
theorem srtE_congr (h : TbOk T) (h' : TbOk T') (e : ∀ w, valsT T w = valsT T' w) : srtE T = srtE T' := by
  rw [srtE_eq, srtE_eq, sort_ext (nek_nd h.nd) (nek_nd h'.nd) fun w => by rw [nek_mem, nek_mem, e w]]
  exact List.map_congr_left fun w _ => by rw [e w]
theorem srtE_inj (h : TbOk T) (h' : TbOk T') (e : srtE T = srtE T') (w : Codes) : valsT T w = valsT T' w := by
  rw [← srtE_vals h w, ← srtE_vals h' w, e]
theorem srtE_idem (h : TbOk T) : srtE (srtE T) = srtE T := srtE_congr (srtE_ok h) h (srtE_vals h)
theorem srtE_iff (h : TbOk T) (h' : TbOk T') : srtE T = srtE T' ↔ ∀ w, valsT T w = valsT T' w := ⟨srtE_inj h h', srtE_congr h h'⟩
end
section
variable {μ : Store} {w : Codes} {vs : List Codes} {T R : Tb}
def putT (T : Tb) (w : Codes) (vs : List Codes) : Tb := if w ∈ T.map (·.1) then T.map (fun p => if p.1 = w then (p.1, vs) else p) else T ++ [(w, vs)]
def mergeT (T R : Tb) : Tb := R.foldl (fun (T : Tb) (p : Codes × List Codes) => putT T p.1 p.2) T
theorem set_T : ∀ T : Tb, setK (keysM (T.map (·.1))) (T.map fun p => tupS p.2) (.inr (SX.S w)) (tupS vs) = (T.map fun p => if p.1 = w then (p.1, vs) else p).map fun p => tupS p.2
  | [] => rfl
  | p :: T => by
    have ih := set_T T
    have e : setK (keysM ((p :: T).map (·.1))) ((p :: T).map fun p => tupS p.2) (.inr (SX.S w)) (tupS vs) = (if (Sum.inr (SX.S p.1) : Key) = .inr (SX.S w) then tupS vs else tupS p.2) :: setK (keysM (T.map (·.1))) (T.map fun p => tupS p.2) (.inr (SX.S w)) (tupS vs) := rfl
    rw [e, ih]
    by_cases h : p.1 = w
    · rw [if_pos (by rw [h])]
      simp only [List.map_cons, if_pos h]
    · rw [if_neg fun z => h (SX.S_inj (Sum.inr.inj z))]
      simp only [List.map_cons, if_neg h]
theorem hasK_T (h : w ∈ T.map (·.1)) : hasK (keysM (T.map (·.1))) (.inr (SX.S w)) = true := hasK_mem.mpr (List.mem_map.mpr ⟨w, h, rfl⟩)
theorem put_keys (h : w ∈ T.map (·.1)) : (T.map fun p => if p.1 = w then (p.1, vs) else p).map (·.1) = T.map (·.1) := by
  rw [List.map_map]
  refine List.map_congr_left fun p _ => ?_
  show (if p.1 = w then (p.1, vs) else p).1 = p.1
  split <;> rfl
theorem put_T : putKD (T.map fun p => D.str p.1) (T.map fun p => tupS p.2) (.str w) (tupS vs) = some ((putT T w vs).map fun p => D.str p.1, (putT T w vs).map fun p => tupS p.2) := by
  unfold putT
  by_cases h : w ∈ T.map (·.1)
  · rw [if_pos h, ← set_T, dE_keys, dE_keys, put_keys h]
    unfold putKD
    rw [keys_inr]
    show (if hasK (keysM (T.map (·.1))) (.inr (SX.S w)) = true then some ((T.map (·.1)).map D.str, setK (keysM (T.map (·.1))) (T.map fun p => tupS p.2) (.inr (SX.S w)) (tupS vs)) else some ((T.map (·.1)).map D.str ++ [.str w], (T.map fun p => tupS p.2) ++ [tupS vs])) = _
    rw [if_pos (hasK_T h)]
  · rw [if_neg h, dE_keys, putK_new h, dE_keys]
    simp only [List.map_append, List.map_cons, List.map_nil]
theorem mrg_T : ∀ R T : Tb, mrgKD (T.map fun p => D.str p.1) (T.map fun p => tupS p.2) (R.map fun p => D.str p.1) (R.map fun p => tupS p.2) = some ((mergeT T R).map fun p => D.str p.1, (mergeT T R).map fun p => tupS p.2)
  | [], T => rfl
  | p :: R, T => by
    show (match putKD (T.map fun p => D.str p.1) (T.map fun p => tupS p.2) (.str p.1) (tupS p.2) with
      | some r => mrgKD r.1 r.2 (R.map fun p : Codes × List Codes => D.str p.1) (R.map fun p : Codes × List Codes => tupS p.2)
      | none => none) = _
    rw [put_T]
    exact mrg_T R (putT T p.1 p.2)
abbrev rowE (p : Codes × List Codes) : D := .tup [.str p.1, tupS p.2]
theorem unpr_T : ∀ R : Tb, unprD (R.map rowE) = some (R.map fun p => D.str p.1, R.map fun p => tupS p.2)
  | [] => rfl
  | p :: R => by
    show (match unprD (R.map rowE) with
      | some q => some (D.str p.1 :: q.1, tupS p.2 :: q.2)
      | none => none) = _
    rw [unpr_T R]
    rfl
theorem mrgT_new : ∀ (R T : Tb), ((T ++ R).map (·.1)).Nodup → mergeT T R = T ++ R
  | [], T, _ => by rw [List.append_nil]; rfl
  | p :: R, T, h => by
    have hn : p.1 ∉ T.map (·.1) := fun z => by
      rw [List.map_append, List.nodup_append] at h
      exact h.2.2 _ z _ (.head _) rfl
    show mergeT (putT T p.1 p.2) R = _
    unfold putT
    rw [if_neg hn, mrgT_new R (T ++ [(p.1, p.2)]) (by rw [List.append_assoc]; exact h), List.append_assoc]
    rfl
theorem mrgT_nil (h : (R.map (·.1)).Nodup) : mergeT [] R = R := mrgT_new R [] h
theorem put_vals (T : Tb) (x : Codes) : valsT (putT T w vs) x = if x = w then vs else valsT T x := by
  unfold putT
  by_cases h : w ∈ T.map (·.1)
  · rw [if_pos h]
    induction T with
    | nil => cases h
    | cons p T ih =>
      show valsT ((if p.1 = w then (p.1, vs) else p) :: T.map _) x = if x = w then vs else valsT (p :: T) x
      by_cases e : p.1 = w
      · rw [if_pos e]
        unfold valsT
        by_cases z : p.1 = x
        · rw [if_pos z, if_pos (by rw [← z, e])]
        · rw [if_neg z, if_neg z]
          have z2 : x ≠ w := fun y => z (by rw [e, y])
          rw [if_neg z2]
          by_cases h2 : w ∈ T.map (·.1)
          · have := ih h2
            rw [if_neg z2] at this
            exact this
          · have : T.map (fun p => if p.1 = w then (p.1, vs) else p) = T := by
              have : T.map (fun p => if p.1 = w then (p.1, vs) else p) = T.map id := List.map_congr_left fun q hq => by
                rw [if_neg fun y => h2 (by rw [← y]; exact List.mem_map_of_mem hq)]
                rfl
              rw [this, List.map_id]
            rw [this]
      · rw [if_neg e]
        have h2 : w ∈ T.map (·.1) := (List.mem_cons.mp h).resolve_left fun y => e y.symm
        unfold valsT
        by_cases z : p.1 = x
        · rw [if_pos z, if_pos z, if_neg (by rw [← z]; exact e)]
        · rw [if_neg z, if_neg z]
          exact ih h2
  · rw [if_neg h]
    induction T with
    | nil =>
      show (if w = x then vs else []) = if x = w then vs else []
      by_cases e : x = w
      · rw [if_pos e, if_pos e.symm]
      · rw [if_neg e, if_neg fun z => e z.symm]
    | cons p T ih =>
      have h1 : p.1 ≠ w := fun y => h (by rw [← y]; exact .head _)
      have h2 : w ∉ T.map (·.1) := fun y => h (.tail _ y)
      show valsT (p :: (T ++ [(w, vs)])) x = if x = w then vs else valsT (p :: T) x
      unfold valsT
      by_cases z : p.1 = x
      · rw [if_pos z, if_pos z, if_neg (by rw [← z]; exact h1)]
      · rw [if_neg z, if_neg z]
        exact ih h2
/-- what the rows say last, else the table -/
theorem mrgT_congr : ∀ (R T T' : Tb), (∀ x, valsT T x = valsT T' x) → ∀ x, valsT (mergeT T R) x = valsT (mergeT T' R) x
  | [], _, _, h => h
  | p :: R, T, T', h => mrgT_congr R (putT T p.1 p.2) (putT T' p.1 p.2) fun x => by rw [put_vals, put_vals, h x]
theorem put_nd (h : (T.map (·.1)).Nodup) : ((putT T w vs).map (·.1)).Nodup := by
  unfold putT
  by_cases hw : w ∈ T.map (·.1)
  · rw [if_pos hw, put_keys hw]
    exact h
  · rw [if_neg hw, List.map_append]
    refine List.nodup_append.mpr ⟨h, by simp, fun a ha b hb z => ?_⟩
    rw [List.mem_singleton.mp hb] at z
    have z : a = w := z
    exact hw (z ▸ ha)
theorem put_in {p : Codes × List Codes} (h : p ∈ putT T w vs) : p ∈ T ∨ p = (w, vs) := by
  unfold putT at h
  split at h
  · obtain ⟨q, hq, e⟩ := List.mem_map.mp h
    split at e
    · rename_i z
      right
      rw [← e, z]
    · exact .inl (e ▸ hq)
  · rcases List.mem_append.mp h with h | h
    · exact .inl h
    · exact .inr (List.mem_singleton.mp h)
theorem put_len : (putT T w vs).length ≤ T.length + 1 := by
  unfold putT
  split
  · rw [List.length_map]; omega
  · rw [List.length_append]; exact Nat.le_refl _
/-- rows of words and values -/
def RwOk (R : Tb) : Prop := ∀ p ∈ R, isW p.1 = true ∧ (∀ v ∈ p.2, isV v = true) ∧ p.2.length ≤ 1000
theorem mrgT_ok : ∀ {R T : Tb}, RwOk R → TbOk T → T.length + R.length < 64 → TbOk (mergeT T R) ∧ (mergeT T R).length ≤ T.length + R.length
  | [], T, _, h, _ => ⟨h, Nat.le_refl _⟩
  | p :: R, T, hr, h, hl => by
    rw [List.length_cons] at hl
    have l1 := put_len (T := T) (w := p.1) (vs := p.2)
    obtain ⟨a1, a2, a3⟩ := hr p (.head _)
    have h2 : TbOk (putT T p.1 p.2) := by
      refine ⟨put_nd h.nd, fun q hq => ?_, fun q hq => ?_, by omega, fun q hq => ?_⟩
      · rcases put_in hq with hq | rfl
        · exact h.wd q hq
        · exact a1
      · rcases put_in hq with hq | rfl
        · exact h.vl q hq
        · exact a2
      · rcases put_in hq with hq | rfl
        · exact h.sz q hq
        · exact a3
    obtain ⟨b1, b2⟩ := mrgT_ok (R := R) (fun q hq => hr q (.tail _ hq)) h2 (by omega)
    exact ⟨b1, by rw [List.length_cons]; exact Nat.le_trans b2 (by omega)⟩
theorem nil_okT : TbOk [] := ⟨List.nodup_nil, fun _ h => (nomatch h), fun _ h => (nomatch h), by decide, fun _ h => (nomatch h)⟩
/-- without the empty ones -/
def neT (T : Tb) : Tb := T.filter fun p => !decide (p.2 = [])
theorem neT_ok (h : TbOk T) : TbOk (neT T) := ⟨h.nd.sublist (List.filter_sublist.map _), fun p hp => h.wd p (List.mem_filter.mp hp).1, fun p hp => h.vl p (List.mem_filter.mp hp).1, Nat.lt_of_le_of_lt (List.length_filter_le _ _) h.ln, fun p hp => h.sz p (List.mem_filter.mp hp).1⟩
theorem neT_ne : ∀ p ∈ neT T, p.2 ≠ [] := fun p hp z => by
  have := (List.mem_filter.mp hp).2
  rw [z] at this
  cases this
theorem neT_vals (h : (T.map (·.1)).Nodup) (x : Codes) : valsT (neT T) x = valsT T x := by
  induction T with
  | nil => rfl
  | cons p T ih =>
    have hn := List.nodup_cons.mp h
    have ih := ih hn.2
    unfold neT
    rw [List.filter_cons]
    by_cases e : p.2 = []
    · rw [decide_eq_true e]
      show valsT (neT T) x = valsT (p :: T) x
      rw [ih]
      conv => rhs; unfold valsT
      by_cases z : p.1 = x
      · rw [if_pos z, e, ← z]
        exact valsT_not hn.1
      · rw [if_neg z]
    · rw [decide_eq_false e]
      show valsT (p :: neT T) x = valsT (p :: T) x
      unfold valsT
      rw [ih]
end
end
end My
namespace My
open PySem PySem.Spec PyProof.Rows L2
theorem lc_flt {α : Type} {it : Mo (List D × Gd)} {tg : Tg} {t : Mo Bool} {e : Mo D} {vs : List Nat} {env : En} {μ : Store} (f : α → D) (p : α → Bool) (g : α → D) {as : List α} (hi : it env μ = .ok (as.map f, none) μ) (hl : as.length ≤ 50000)
    (hs : ∀ a ∈ as, ∃ env1, tg (f a) (wipeE env vs) = some env1 ∧ t env1 μ = .ok (p a) μ ∧ (p a = true → e env1 μ = .ok (g a) μ)) : mLc it tg t e vs env μ = .ok ((as.filter p).map g) μ := by
  unfold mLc
  rw [hi]
  show (if (as.map f).length ≤ 50000 then _ else _) = _
  rw [if_pos (by rw [List.length_map]; exact hl)]
  exact lcGo_filter f p g as hs
end My
namespace My
open PySem PySem.Spec PyProof.Rows L2
section
variable {μ ν : Store} {env : En} {c d : Bool} {y : D}
theorem or_f {a b : Mo Bool} (h : a env μ = .ok false ν) : mOr a b env μ = b env ν := by unfold mOr; rw [h]; rfl
theorem not_of {a : Mo Bool} (h : a env μ = .ok c ν) : mNot a env μ = .ok (!c) ν := by unfold mNot; rw [h]; rfl
theorem andV_t {a b : Mo D} (h : a env μ = .ok (.bl true) ν) : mAndV a b env μ = b env ν := by unfold mAndV; rw [h]; rfl
theorem andV_f {a b : Mo D} (h : a env μ = .ok (.bl false) ν) : mAndV a b env μ = .ok (.bl false) ν := by unfold mAndV; rw [h]; rfl
theorem andV_of {a b : Mo D} (h : a env μ = .ok (.bl c) μ) (h2 : c = true → b env μ = .ok (.bl d) μ) : mAndV a b env μ = .ok (.bl (c && d)) μ := by
  cases c with
  | true => rw [andV_t h, h2 rfl]; rfl
  | false => rw [andV_f h]; rfl
end
end My
namespace My
open PySem PySem.Spec PyProof.Rows L2
section
variable {n : Nat} {μ : Store} {d : D} {cs : List Int}
def F2 (n : Nat) (x : Option D) : Prop := ∀ N : Store, finV n N x = some x
theorem f2_none : F2 n none := fun _ => rfl
theorem f2_und (h : undD n d = true) (hr : ∀ k, d ≠ .ref k) : F2 n (some d) := fun N => by
  have e : finD n d N = .ok d (N.take n) := by
    unfold finD
    cases d with
    | ref k => exact absurd rfl (hr k)
    | _ => simp only [h, if_true]
  unfold finV
  dsimp only
  rw [e]
theorem f2_pure (h : pureD d = true) : F2 n (some d) := f2_und (und_of_pure n h) fun k z => by
  rw [z] at h
  cases h
theorem und_ints : ∀ cs : List Int, undL n (cs.map D.int) = true
  | [] => rfl
  | _ :: cs => und_ints cs
theorem f2_dm {j : Nat} (hj : j < n) : F2 n (some (dmD cs j)) := f2_und (by
  show (undL n (cs.map D.int) && (decide (j < n) && true)) = true
  rw [und_ints, decide_eq_true hj]
  rfl) fun k z => by cases z
theorem fin_cell {N : Store} {ds : List D} (hN : N.length = n) : finV n (N ++ [.lst ds]) (some (.ref n)) = some (some (.lst ds)) := by
  subst hN
  unfold finV
  dsimp only
  show (match (if N.length < N.length then Rs.ok (D.ref N.length) ((N ++ [Cell.lst ds]).take N.length) else (match (N ++ [Cell.lst ds])[N.length]? with
    | some c => Rs.ok (frzC c) ((N ++ [Cell.lst ds]).take N.length)
    | none => .no)) with
    | .ok d' _ => some (some d')
    | _ => none) = _
  rw [if_neg (Nat.lt_irrefl _), List.getElem?_concat_length]
  rfl
theorem finE_cons {n : Nat} {N : Store} {x y : Option D} {env env2 : En} (h : finV n N x = some y) (h2 : finE n N env = some env2) : finE n N (x :: env) = some (y :: env2) := by
  unfold finE
  rw [h, h2]
theorem blk_nx {s : MS} {env env1 env2 : En} {N N1 : Store} (h : s env N = .nx env1 N1) (h2 : finE N.length N1 env1 = some env2) : sBlk s env N = .nx env2 (N1.take N.length) := by
  unfold sBlk
  rw [h]
  dsimp only
  rw [h2]
end
end My
namespace My
open PySem PySem.Spec PyProof.Rows L2
section
variable {P : Program} [hP : OkP fileS P] {w : World} {K : PySem.W.Frag} {mg : Str → Option Value} {base : Heap}
section
variable {μ ν μ1 μ2 : Store} {j n : Nat} {cs : List Int} {env : En} {x : D}
theorem cons_s {a : Mo D} {as : Mo (List D)} {xs : List D} (h : a env μ = .ok x μ1) (h2 : as env μ1 = .ok xs μ2) : mCons a as env μ = .ok (x :: xs) μ2 := by
  unfold mCons
  rw [h]
  show (as env μ1).bind _ = _
  rw [h2]
  rfl
theorem call_s {f : List D → Store → Rs D} {as : Mo (List D)} {xs : List D} (h : as env μ = .ok xs μ1) : mCall f as env μ = f xs μ1 := by
  unfold mCall
  rw [h]
  rfl
theorem fz_s {m : Mo (List D)} {ds : List D} (h : m env μ = .ok ds μ1) : mFz m env μ = .ok (.lst ds) μ1 := by
  unfold mFz
  rw [h]
  rfl
theorem lst_s {as : Mo (List D)} {ds : List D} (h : as env μ = .ok ds μ1) (hl : ds.length ≤ 100000 := by simp) : mLst as env μ = .ok ds μ1 := by
  unfold mLst
  rw [h]
  exact if_pos hl
theorem ret_s {m : Mo D} (h : m env μ = .ok x μ1) : sRet m env μ = .rt x μ1 := by
  unfold sRet
  rw [h]
theorem asg_s {m : Mo D} {i : Nat} (h : m env μ = .ok x μ1) : sAsg m (tgName i) env μ = .nx (env.set i (some x)) μ1 := by
  unfold sAsg
  rw [h]
  rfl
theorem seq_rt2 {a b : MS} (h : a env μ = .rt x μ1) : sSeq a b env μ = .rt x μ1 := by
  unfold sSeq
  rw [h]
theorem makeP_g {c : String} {init : List D → Store → Rs D} {n mm : Nat} {js : List Nat} {dd ds es xs : List D} {fm : Mo D} {a k : Mo (List D)} {cell : Cell} (h0 : fm env μ = .ok (.cls c) μ) (h1 : a env μ = .ok ds μ1) (h2 : k env μ1 = .ok es μ2) (l1 : ds.length = n) (l2 : es.length = mm)
    (hx : perm js ((.ref μ2.length :: ds) ++ dd ++ es) = xs) (h3 : init xs (μ2 ++ [.obj c [] []]) = .ok .non (μ2 ++ [cell])) : mMakeP false c init n mm js dd fm a k env μ = .ok (frzC cell) μ2 := by
  unfold mMakeP
  simp only [h0, h1, h2, Rs.bind, if_true, if_pos (show ds.length = n ∧ es.length = mm from ⟨l1, l2⟩), hx, h3, Bool.false_eq_true, if_false]
  simp
end
end
end My
namespace My
open PySem PySem.Spec PyProof.Rows L2
section
variable {P : Program} [hP : OkP fileS P] {w : World} {K : PySem.W.Frag} {mg : Str → Option Value} {base : Heap}
section
abbrev nt0 : Codes := [99, 110, 61, 97]
abbrev nt1 : Codes := [99, 110, 61, 65]
abbrev nt2 : Codes := [99, 110, 61, 97, 43, 111, 117, 61, 98]
abbrev nt3 : Codes := [111, 117, 61, 98, 43, 99, 110, 61, 97]
abbrev nt4 : Codes := [99, 110, 61, 97, 44, 100, 99, 61, 120]
abbrev nt5 : Codes := [99, 110, 61, 98, 44, 100, 99, 61, 120]
abbrev nt6 : Codes := []
abbrev nt7 : Codes := [99, 110, 61, 97, 32, 32, 98]
abbrev nt8 : Codes := [99, 110, 61, 97, 32, 98]
def NTL : List Codes := [nt0, nt1, nt2, nt3, nt4, nt5, nt6, nt7, nt8]
def nmD (t : Codes) : D := match m_need_name [.str t] [] with
  | .ok d _ => d
  | _ => .non
def lvN (t : Codes) : D := match nmD t with
  | .obj _ _ [_, l, _] => l
  | _ => .non
def orN (t : Codes) : D := match nmD t with
  | .obj _ _ [_, _, o] => o
  | _ => .non
theorem NTL_all {P : Codes → Prop} (h0 : P nt0) (h1 : P nt1) (h2 : P nt2) (h3 : P nt3) (h4 : P nt4) (h5 : P nt5) (h6 : P nt6) (h7 : P nt7) (h8 : P nt8) : ∀ t ∈ NTL, P t := fun t ht => by
  unfold NTL at ht
  simp only [List.mem_cons, List.not_mem_nil, or_false] at ht
  rcases ht with rfl | rfl | rfl | rfl | rfl | rfl | rfl | rfl | rfl <;> assumption
theorem nm_shape : ∀ t ∈ NTL, nmD t = nameD t (lvN t) (orN t) := by
  apply NTL_all <;> kernel_rfl
theorem nm_pure : ∀ t ∈ NTL, pureD (nameD t (lvN t) (orN t)) = true := by
  apply NTL_all <;> decide +kernel
theorem nm_asc : ∀ t ∈ NTL, asc t := by
  apply NTL_all <;> rfl
theorem nm_at1 (c : Cell) : ∀ t ∈ NTL, m_need_name [.str t] [c] = .ok (nmD t) [c] := by
  apply NTL_all <;> kernel_rfl
theorem nm_at2 (c d : Cell) : ∀ t ∈ NTL, m_need_name [.str t] [c, d] = .ok (nmD t) [c, d] := by
  apply NTL_all <;> kernel_rfl
abbrev nmC (t : Codes) : Cell := .obj "Name" ["own_text", "own_leaves", "own_order"] [.str t, lvN t, orN t]
theorem nm_mk2 (c d : Cell) : ∀ t ∈ NTL, m_Name___init [.ref 2, .str t] [c, d, .obj "Name" [] []] = .ok .non [c, d, nmC t] := by
  apply NTL_all <;> kernel_rfl
theorem nm_eq2 (c d : Cell) : ∀ t ∈ NTL, m_Name___eq [nmD t, nmD t] [c, d] = .ok (.bl true) [c, d] := by
  apply NTL_all <;> kernel_rfl
theorem nm_bad3 (c d e : Cell) : m_need_name [.str [67, 110, 61, 97]] [c, d, e] = .rz "BadName" ["given"] [.str [67, 110, 61, 97]] [c, d, e] := by kernel_rfl
section
variable {μ : Store} {t : Codes}
theorem nm_1 (hl : μ.length = 1) (h : t ∈ NTL) : m_need_name [.str t] μ = .ok (nameD t (lvN t) (orN t)) μ := by
  obtain ⟨c, y, rfl, hy⟩ := cons_of hl
  cases List.length_eq_zero_iff.mp hy
  rw [← nm_shape t h]
  exact nm_at1 c t h
theorem nm_2 (hl : μ.length = 2) (h : t ∈ NTL) : m_need_name [.str t] μ = .ok (nameD t (lvN t) (orN t)) μ := by
  obtain ⟨c, y, rfl, hy⟩ := cons_of hl
  obtain ⟨d, z, rfl, hz⟩ := cons_of hy
  cases List.length_eq_zero_iff.mp hz
  rw [← nm_shape t h]
  exact nm_at2 c d t h
theorem nm_mk (hl : μ.length = 2) (h : t ∈ NTL) : m_Name___init [.ref μ.length, .str t] (μ ++ [.obj "Name" [] []]) = .ok .non (μ ++ [nmC t]) := by
  obtain ⟨c, y, rfl, hy⟩ := cons_of hl
  obtain ⟨d, z, rfl, hz⟩ := cons_of hy
  cases List.length_eq_zero_iff.mp hz
  exact nm_mk2 c d t h
theorem nm_eq (hl : μ.length = 2) (h : t ∈ NTL) : m_Name___eq [nameD t (lvN t) (orN t), nameD t (lvN t) (orN t)] μ = .ok (.bl true) μ := by
  obtain ⟨c, y, rfl, hy⟩ := cons_of hl
  obtain ⟨d, z, rfl, hz⟩ := cons_of hy
  cases List.length_eq_zero_iff.mp hz
  rw [← nm_shape t h]
  exact nm_eq2 c d t h
theorem nm_bad (hl : μ.length = 3) : m_need_name [.str [67, 110, 61, 97]] μ = .rz "BadName" ["given"] [.str [67, 110, 61, 97]] μ := by
  obtain ⟨c, y, rfl, hy⟩ := cons_of hl
  obtain ⟨d, z, rfl, hz⟩ := cons_of hy
  obtain ⟨e, x, rfl, hx⟩ := cons_of hz
  cases List.length_eq_zero_iff.mp hx
  exact nm_bad3 c d e
end
end
end
end My
namespace My
open PySem PySem.Spec PyProof.Rows L2
section
variable {P : Program} [hP : OkP fileS P] {w : World} {K : PySem.W.Frag} {mg : Str → Option Value} {base : Heap}
section
variable {μ : Store} {w t tx : Codes} {S T T' R : Tb} {NM x : D} {env : En} {o : Mo D}
def eD (t : Codes) (S : Tb) : D := entD (nameD t (lvN t) (orN t)) t S
theorem fld_tb (h : o env μ = .ok (entD NM tx S) μ) : mFld ctab "own_table" o env μ = .ok (dE S) μ := by
  unfold mFld
  rw [h]
  show (if ctab.names.contains "Entry" = true ∧ ctab.fields.contains "own_table" = true then Rs.of (getF "own_table" fnsE [NM, dE S, keyE tx S]) μ else .no) = _
  rw [if_pos ⟨by decide +kernel, by decide +kernel⟩]
  rfl
theorem fld_nm (h : o env μ = .ok (entD NM tx S) μ) : mFld ctab "own_name" o env μ = .ok NM μ := by
  unfold mFld
  rw [h]
  show (if ctab.names.contains "Entry" = true ∧ ctab.fields.contains "own_name" = true then Rs.of (getF "own_name" fnsE [NM, dE S, keyE tx S]) μ else .no) = _
  rw [if_pos ⟨by decide +kernel, by decide +kernel⟩]
  rfl
theorem fld_key (h : o env μ = .ok (entD NM tx S) μ) : mFld ctab "own_key" o env μ = .ok (keyE tx S) μ := by
  unfold mFld
  rw [h]
  show (if ctab.names.contains "Entry" = true ∧ ctab.fields.contains "own_key" = true then Rs.of (getF "own_key" fnsE [NM, dE S, keyE tx S]) μ else .no) = _
  rw [if_pos ⟨by decide +kernel, by decide +kernel⟩]
  rfl
theorem prop_nm (h : o env μ = .ok (entD NM tx S) μ) : mPropP ctab ["Entry"] m_Entry_name o env μ = .ok NM μ := by
  have e : m_Entry_name [entD NM tx S] μ = .ok NM μ := by
    refine fnK_of (b := b_Entry_name) (E := [some (entD NM tx S)]) rfl rfl ?_
    unfold b_Entry_name sRet
    rw [fld_nm (o := mVar 0) (env := [some (entD NM tx S)]) rfl]
  unfold mPropP
  rw [h]
  show (if (["Entry"] : List String).contains "Entry" = true ∧ ctab.names.contains "Entry" = true then m_Entry_name [entD NM tx S] μ else .no) = _
  rw [if_pos ⟨by decide +kernel, by decide +kernel⟩]
  exact e
theorem prop_tx {LV OR : D} (h : o env μ = .ok (nameD tx LV OR) μ) : mPropP ctab ["Name"] m_Name_text o env μ = .ok (.str tx) μ := by
  unfold mPropP
  rw [h]
  show (if (["Name"] : List String).contains "Name" = true ∧ ctab.names.contains "Name" = true then m_Name_text [nameD tx LV OR] μ else .no) = _
  rw [if_pos ⟨by decide +kernel, by decide +kernel⟩]
  kernel_rfl
theorem list_d (T : Tb) : lListD μ [dE T] = some ((T.map (·.1)).map D.str) := by
  unfold lListD
  show (match namesOf (T.map fun p => D.str p.1) with
    | some ns => some (ns.map D.str)
    | none => none) = _
  rw [dE_keys, namesOf_strs]
theorem prop_wd (h : o env μ = .ok (entD NM tx S) μ) : mPropP ctab ["Entry"] m_Entry_words o env μ = .ok (tupS (S.map (·.1))) μ := by
  have e : m_Entry_words [entD NM tx S] μ = .ok (tupS (S.map (·.1))) μ := by
    refine fnK_of (b := b_Entry_words) (E := [some (entD NM tx S)]) rfl rfl ?_
    have f := fld_tb (o := mVar 0) (env := [some (entD NM tx S)]) (μ := μ) (NM := NM) (tx := tx) (S := S) rfl
    have l := list_d (μ := μ) S
    have tp : dTuple μ [.lst ((S.map (·.1)).map D.str)] = some (tupS (S.map (·.1))) := rfl
    unfold b_Entry_words sRet
    simp only [mCb, mCons, mNil, mFz, mCc, Rs.bind, Rs.of, f, l, tp]
  unfold mPropP
  rw [h]
  show (if (["Entry"] : List String).contains "Entry" = true ∧ ctab.names.contains "Entry" = true then m_Entry_words [entD NM tx S] μ else .no) = _
  rw [if_pos ⟨by decide +kernel, by decide +kernel⟩]
  exact e
theorem get_item (hT : TbOk T) : m_Entry___getitem [entD NM tx T, .str w] μ = .ok (tupS (valsT T w)) μ := by
  have is : dIsiC ctab μ [.str w, .ty "str"] = some (.bl true) := rfl
  have fl := fld_tb (o := mVar 0) (env := [some (entD NM tx T), some (.str w)]) (μ := μ) (NM := NM) (tx := tx) (S := T) rfl
  have gt := get_T (w := w) hT.nd
  have kd : dkv μ (dE T) = some (keysM (T.map (·.1)), T.map fun p => tupS p.2) := dkv_dE
  have q : mDGet (mFld ctab "own_table" (mVar 0)) (mVar 1) (mTup mNil) [some (entD NM tx T), some (.str w)] μ = .ok (tupS (valsT T w)) μ := by
    have tp : mTup mNil [some (entD NM tx T), some (.str w)] μ = .ok (.tup []) μ := rfl
    unfold mDGet
    rw [fl]
    simp only [Rs.bind, mVar, List.getElem?_cons_zero, List.getElem?_cons_succ, tp, kd]
    show Rs.ok ((getK (keysM (T.map (·.1))) (T.map fun p => tupS p.2) (.inr (SX.S w))).getD (.tup [])) μ = _
    rw [gt]
  refine fnK_of (b := b_Entry___getitem) (E := [some (entD NM tx T), some (.str w)]) rfl rfl ?_
  unfold b_Entry___getitem
  simp only [sRet, mIf, mTest, mCb, mC, mVar, mCons, mNil, Rs.bind, Rs.of, List.getElem?_cons_zero, List.getElem?_cons_succ, is, if_true, q]
theorem sorted_l {ls : List Codes} (h : ls.length < 64) : lSortedL μ [.lst (ls.map D.str)] = some ((sortT ls).map D.str) := by
  cases ls with
  | nil => rfl
  | cons a r =>
    show (match strsOf ((a :: r).map D.str) with
      | some ns => if ns.length < 64 then some ((sortT ns).map D.str) else none
      | none => none) = _
    rw [strsOf_map]
    exact if_pos h
theorem e_of (ht : t ∈ NTL) (hN : m_need_name [x] μ = .ok (nameD t (lvN t) (orN t)) μ) (hT : TbOk T) : m_Entry_of [.cls "Entry", x, dE T] μ = .ok (eD t (srtE T)) μ := by
  have := p_Entry_ofX hT hN (nm_pure t ht)
  rw [srtE_idem hT] at this
  exact this
theorem e_of_name (ht : t ∈ NTL) (hT : TbOk T) : m_Entry_of [.cls "Entry", nameD t (lvN t) (orN t), dE T] μ = .ok (eD t (srtE T)) μ := e_of ht need_same hT
theorem e_of_rz {y : D} {c : String} {ns : List String} {zs : List D} (h : m_need_name [x] μ = .rz c ns zs μ) : m_Entry_of [.cls "Entry", x, y] μ = .rz c ns zs μ := by
  have s0 : (sAsgX (mCallX m_need_name (mCons (mVar 1) mNil)) (tgName 3)) [some (.cls "Entry"), some x, some y, none, none] μ = .rz c ns zs [some (.cls "Entry"), some x, some y, none, none] μ := by
    simp only [sAsgX, mCallX, mCons, mNil, mVar, Rs.nr, Rs.bind, List.getElem?_cons_zero, List.getElem?_cons_succ, h]
  unfold m_Entry_of fnKX b_Entry_of
  rw [if_pos (by rfl)]
  rw [show (List.map some [D.cls "Entry", x, y] ++ List.replicate 2 none) = [some (.cls "Entry"), some x, some y, none, none] from rfl]
  unfold sSeq
  rw [s0]
theorem methCPX_of {c : String} {f : List D → Store → Rs D} {a : Mo (List D)} {ds : List D} (h : a env μ = .ok ds μ) : mMethCPX c f (mC (.cls c)) a env μ = f (.cls c :: ds) μ := by
  unfold mMethCPX
  show (if c = c then (a env μ).nr.bind fun ds μ2 => f (.cls c :: ds) μ2 else .no) = _
  rw [if_pos rfl, h]
  rfl
theorem methCP_of {c : String} {f : List D → Store → Rs D} {a : Mo (List D)} {ds : List D} (h : a env μ = .ok ds μ) : mMethCP c f (mC (.cls c)) a env μ = f (.cls c :: ds) μ := by
  unfold mMethCP
  show (if c = c then (a env μ).bind fun ds μ2 => f (.cls c :: ds) μ2 else .no) = _
  rw [if_pos rfl, h]
  rfl
theorem e_renamed {t0 : Codes} (ht : t ∈ NTL) (hN : m_need_name [x] μ = .ok (nameD t (lvN t) (orN t)) μ) (hS : TbOk S) : m_Entry_renamed [eD t0 S, x] μ = .ok (eD t (srtE S)) μ := by
  have f := fld_tb (o := mVar 0) (env := [some (eD t0 S), some x]) (μ := μ) (S := S) rfl
  have c := methCPX_of (c := "Entry") (f := m_Entry_of) (a := mCons (mVar 1) (mCons (mFld ctab "own_table" (mVar 0)) mNil)) (env := [some (eD t0 S), some x]) (μ := μ) (cons_ok (x := x) rfl (cons_ok f nil_ok))
  rw [e_of ht hN hS] at c
  unfold m_Entry_renamed fnKX b_Entry_renamed
  rw [if_pos (by rfl)]
  rw [show (List.map some [eD t0 S, x] ++ List.replicate 0 none) = [some (eD t0 S), some x] from rfl]
  unfold sRetX
  rw [c]
theorem e_renamed_rz {t0 : Codes} {c : String} {ns : List String} {zs : List D} (h : m_need_name [x] μ = .rz c ns zs μ) : m_Entry_renamed [eD t0 S, x] μ = .rz c ns zs μ := by
  have f := fld_tb (o := mVar 0) (env := [some (eD t0 S), some x]) (μ := μ) (S := S) rfl
  have c := methCPX_of (c := "Entry") (f := m_Entry_of) (a := mCons (mVar 1) (mCons (mFld ctab "own_table" (mVar 0)) mNil)) (env := [some (eD t0 S), some x]) (μ := μ) (cons_ok (x := x) rfl (cons_ok f nil_ok))
  rw [e_of_rz h] at c
  unfold m_Entry_renamed fnKX b_Entry_renamed
  rw [if_pos (by rfl)]
  rw [show (List.map some [eD t0 S, x] ++ List.replicate 0 none) = [some (eD t0 S), some x] from rfl]
  unfold sRetX
  rw [c]
theorem dst_T {a b : Mo D} (h1 : a env μ = .ok (dE S) μ) (h2 : b env μ = .ok (dE R) μ) (hn : (S.map (·.1)).Nodup) (hl : S.length ≤ 1000 ∧ R.length ≤ 1000) : mFzD (mDst2 a b) env μ = .ok (dE (mergeT S R)) μ := by
  have m1 := mrg_T S []
  rw [mrgT_nil hn] at m1
  have m2 := mrg_T R S
  have e : mDst2 a b env μ = .ok ((mergeT S R).map fun p : Codes × List Codes => D.str p.1, (mergeT S R).map fun p : Codes × List Codes => tupS p.2) μ := by
    unfold mDst2
    rw [h1]
    show (b env μ).bind _ = _
    rw [h2]
    show (if (S.map fun p : Codes × List Codes => D.str p.1).length ≤ 1000 ∧ (R.map fun p : Codes × List Codes => D.str p.1).length ≤ 1000 then (match mrgKD (([] : Tb).map fun p : Codes × List Codes => D.str p.1) (([] : Tb).map fun p : Codes × List Codes => tupS p.2) (S.map fun p : Codes × List Codes => D.str p.1) (S.map fun p : Codes × List Codes => tupS p.2) with
      | some r1 => (match mrgKD r1.1 r1.2 (R.map fun p : Codes × List Codes => D.str p.1) (R.map fun p : Codes × List Codes => tupS p.2) with
        | some r => Rs.ok r μ
        | none => .no)
      | none => .no) else .no) = _
    rw [if_pos ⟨by rw [List.length_map]; exact hl.1, by rw [List.length_map]; exact hl.2⟩, m1]
    dsimp only
    rw [m2]
  unfold mFzD
  rw [e]
  rfl
theorem pure_eD (ht : t ∈ NTL) : pureD (eD t S) = true := by
  have h1 := nm_pure t ht
  have h2 := pure_dE (T := S)
  have h3 : pureD (keyE t S) = true := by
    have := pure_rows S
    unfold keyE
    simp only [pureD, pureL, this, Bool.and_self]
  show (pureD (nameD t (lvN t) (orN t)) && (pureD (dE S) && (pureD (keyE t S) && true))) = true
  rw [h1, h2, h3]
  rfl
theorem fin_pure {d : D} (h : pureD d = true) : finD μ.length d μ = .ok d μ := by
  have u := und_of_pure μ.length h
  have tk : μ.take μ.length = μ := List.take_length
  unfold finD
  split
  · cases h
  · rw [if_pos u, tk]
theorem e_with (ht : t ∈ NTL) (hS : TbOk S) (hR : TbOk R) (hl : S.length + R.length < 64) : m_Entry_with_values [eD t S, dE R] μ = .ok (eD t (srtE (mergeT S R))) μ := by
  have hM := (mrgT_ok (R := R) (T := S) (fun p hp => ⟨hR.wd p hp, hR.vl p hp, hR.sz p hp⟩) hS hl).1
  obtain ⟨E, hE⟩ : ∃ E : En, E = [some (eD t S), some (dE R)] := ⟨_, rfl⟩
  have v0 : mVar 0 E μ = .ok (eD t S) μ := by rw [hE]; rfl
  have v1 : mVar 1 E μ = .ok (dE R) μ := by rw [hE]; rfl
  have nt := p_need_table (μ := μ) hR
  have s0 : ((sDropX (mCallX m_need_table (mCons (mVar 1) mNil)))) E μ = .nx E μ := by
    simp only [sDropX, mCallX, mCons, mNil, Rs.nr, Rs.bind, v1, nt]
  have c := methCPX_of (c := "Entry") (f := m_Entry_of) (a := mCons (mFld ctab "own_name" (mVar 0)) (mCons (mFzD (mDst2 (mFld ctab "own_table" (mVar 0)) (mVar 1))) mNil)) (env := E) (μ := μ)
    (cons_ok (fld_nm v0) (cons_ok (dst_T (fld_tb v0) v1 hS.nd ⟨by omega, by omega⟩) nil_ok))
  rw [e_of_name ht hM] at c
  unfold m_Entry_with_values fnDX b_Entry_with_values
  rw [if_pos (by rfl)]
  rw [show (List.map some [eD t S, dE R] ++ List.replicate 0 none) = E from by rw [hE]; rfl]
  rw [seq_nx s0]
  unfold sRetX
  rw [c]
  exact fin_pure (pure_eD ht)
end
section
variable {μ : Store} {w t t' : Codes} {S S' T T' : Tb} {env : En} {a b : Mo D}
def rowP (p : Codes × List Codes) : PyData := .tuple [dS p.1, .tuple (p.2.map dS)]
def keyP (t : Codes) (S : Tb) : PyData := .tuple [dS t, .tuple (S.map rowP)]
theorem data_rowE (p : Codes × List Codes) : toData (rowE p) = some (rowP p) := by
  show (match toData (.str p.1), toDataL [tupS p.2] with
    | some x, some xs => some (x :: xs)
    | _, _ => none).map PyData.tuple = _
  have h : toData (tupS p.2) = some (.tuple (p.2.map dS)) := by
    show (toDataL (p.2.map D.str)).map PyData.tuple = _
    rw [toDataL_strs]
    rfl
  have h2 : toDataL [tupS p.2] = some [.tuple (p.2.map dS)] := by
    rw [toDataL, h]
    rfl
  rw [h2]
  rfl
theorem data_rows : ∀ S : Tb, toDataL (S.map rowE) = some (S.map rowP)
  | [] => rfl
  | p :: S => by
    rw [List.map_cons, toDataL, data_rowE, data_rows S]
    rfl
theorem data_key : toData (keyE t S) = some (keyP t S) := by
  have h1 : toData (.tup (S.map rowE)) = some (.tuple (S.map rowP)) := by
    show (toDataL (S.map rowE)).map PyData.tuple = _
    rw [data_rows]
    rfl
  have h2 : toDataL [.str t, .tup (S.map rowE)] = some [dS t, .tuple (S.map rowP)] := by
    rw [toDataL, toDataL, h1]
    rfl
  show (toDataL [.str t, .tup (S.map rowE)]).map PyData.tuple = _
  rw [h2]
  rfl
theorem eqv_row (p q : Codes × List Codes) : PyData.eqv (rowP p) (rowP q) = decide (p = q) := by
  obtain ⟨p1, p2⟩ := p
  obtain ⟨q1, q2⟩ := q
  unfold rowP
  rw [PyData.eqv, PySem.W.eqv_all_cons, PySem.W.eqv_all_cons, eqv_dS, PyData.eqv, eqvAll_dS]
  have e : PyData.eqvAll [] [] = true := by simp [PyData.eqvAll]
  rw [e]
  by_cases h : p1 = q1 <;> by_cases h2 : p2 = q2 <;> simp [h, h2]
theorem eqv_rows : ∀ S S' : Tb, PyData.eqvAll (S.map rowP) (S'.map rowP) = decide (S = S')
  | [], [] => by simp [PyData.eqvAll]
  | [], _ :: _ => by simp [PyData.eqvAll]
  | _ :: _, [] => by simp [PyData.eqvAll]
  | p :: S, q :: S' => by
    rw [List.map_cons, List.map_cons, PySem.W.eqv_all_cons, eqv_row, eqv_rows S S']
    by_cases h : p = q <;> by_cases h2 : S = S' <;> simp [h, h2]
theorem eqv_key : PyData.eqv (keyP t S) (keyP t' S') = decide (t = t' ∧ S = S') := by
  unfold keyP
  rw [PyData.eqv, PySem.W.eqv_all_cons, PySem.W.eqv_all_cons, eqv_dS, PyData.eqv, eqv_rows]
  have e : PyData.eqvAll [] [] = true := by simp [PyData.eqvAll]
  rw [e]
  by_cases h : t = t' <;> by_cases h2 : S = S' <;> simp [h, h2]
theorem lay_row {p : Codes × List Codes} (h1 : asc p.1) (h2 : ∀ v ∈ p.2, asc v) : PyData.canLay0 (rowP p) = true ∧ (rowP p).depth ≤ 2 := by
  have l1 : PyData.canLay0 (dS p.1) = true := by simp [dS, PyData.canLay0, strOk_asc h1]
  refine ⟨?_, ?_⟩
  · unfold rowP
    simp only [PyData.canLay0, PyData.canLayAll0, l1, canLay_strs h2, Bool.and_self]
  · unfold rowP
    simp [PyData.depth, PyData.depthAll, dS, depth_dS]
theorem lay_rows : ∀ {S : Tb}, (∀ p ∈ S, asc p.1 ∧ ∀ v ∈ p.2, asc v) → PyData.canLayAll0 (S.map rowP) = true ∧ PyData.depthAll (S.map rowP) ≤ 2
  | [], _ => ⟨by simp [PyData.canLayAll0], by simp [PyData.depthAll]⟩
  | p :: S, h => by
    obtain ⟨a1, a2⟩ := lay_row (h p (.head _)).1 (h p (.head _)).2
    obtain ⟨b1, b2⟩ := lay_rows fun q hq => h q (.tail _ hq)
    rw [List.map_cons]
    refine ⟨?_, ?_⟩
    · rw [PyData.canLayAll0, a1, b1]
      rfl
    · rw [PyData.depthAll]
      omega
theorem tb_asc (h : TbOk S) : ∀ p ∈ S, asc p.1 ∧ ∀ v ∈ p.2, asc v := fun p hp => ⟨asc_of fun c hc => by
  have := (isW_iff.mp (h.wd p hp)).2.1 c hc
  omega, fun v hv => (isV_len (h.vl p hp v hv)).2.2⟩
theorem sh_key (ht : asc t) (h : TbOk S) : SeqAt.shaped (keyP t S) = true := by
  obtain ⟨b1, b2⟩ := lay_rows (tb_asc h)
  have l1 : PyData.canLay0 (dS t) = true := by simp [dS, PyData.canLay0, strOk_asc ht]
  have c : PyData.canLay0 (keyP t S) = true := by
    unfold keyP
    simp only [PyData.canLay0, PyData.canLayAll0, l1, b1, Bool.and_self]
  have d : (keyP t S).depth ≤ 64 := by
    unfold keyP
    simp [PyData.depth, PyData.depthAll, dS]
    omega
  unfold SeqAt.shaped
  rw [c, decide_eq_true d]
  rfl
theorem eq_key (ht : asc t) (ht' : asc t') (h : TbOk S) (h' : TbOk S') : dEq μ (keyE t S) (keyE t' S') = some (.bl (decide (t = t' ∧ S = S'))) := by
  have b : bEq μ (keyE t S) (keyE t' S') = some (decide (t = t' ∧ S = S')) := by
    show (match toData (keyE t S), toData (keyE t' S') with
      | some a, some b => if SeqAt.shaped a = true ∧ SeqAt.shaped b = true then some (PyData.eqv a b) else none
      | _, _ => none) = _
    rw [data_key, data_key]
    dsimp only
    rw [if_pos ⟨sh_key ht h, sh_key ht' h'⟩, eqv_key]
  unfold dEq
  rw [b]
  rfl
theorem m_eq (ht : t ∈ NTL) (ht' : t' ∈ NTL) (h : TbOk S) (h' : TbOk S') : m_Entry___eq [eD t S, eD t' S'] μ = .ok (.bl (decide (t = t' ∧ S = S'))) μ := by
  obtain ⟨E, hE⟩ : ∃ E : En, E = [some (eD t S), some (eD t' S')] := ⟨_, rfl⟩
  have v0 : mVar 0 E μ = .ok (eD t S) μ := by rw [hE]; rfl
  have v1 : mVar 1 E μ = .ok (eD t' S') μ := by rw [hE]; rfl
  have is : mCb (dIsiC ctab) (mCons (mVar 1) (mCons (mC (D.cls "Entry")) mNil)) E μ = .ok (.bl true) μ := by
    rw [hE]
    unfold eD entD
    kernel_rfl
  refine fnK_of (b := b_Entry___eq) (E := E) rfl (by rw [hE]; rfl) ?_
  unfold b_Entry___eq sRet
  rw [andV_t is, op_two (fld_key v0) (fld_key v1) (eq_key (nm_asc t ht) (nm_asc t' ht') h h')]
theorem eq_tab : eqTab.lookup "Entry" = some m_Entry___eq := by rfl
theorem mEq_e {neg : Bool} (h1 : a env μ = .ok (eD t S) μ) (h2 : b env μ = .ok (eD t' S') μ) (ht : t ∈ NTL) (ht' : t' ∈ NTL) (h : TbOk S) (h' : TbOk S') : mEqA ctab neg eqTab a b env μ = .ok (.bl (if neg = true then !decide (t = t' ∧ S = S') else decide (t = t' ∧ S = S'))) μ := by
  unfold mEqA
  rw [h1]
  show (b env μ).bind _ = _
  rw [h2]
  show (match eqTab.lookup "Entry", clsOf μ (eD t' S') with
    | some f, some (c', _, _) => if ctab.names.contains "Entry" = true ∧ ctab.names.contains c' = true ∧ ("Entry" == c' || !isSub ctab c' "Entry") = true then (f [eD t S, eD t' S'] μ).bind fun r μ3 => match r with
      | .bl z => Rs.ok (D.bl (if neg = true then !z else z)) μ3
      | _ => .no else .no
    | _, _ => .no) = _
  rw [eq_tab]
  show (if ctab.names.contains "Entry" = true ∧ ctab.names.contains "Entry" = true ∧ ("Entry" == "Entry" || !isSub ctab "Entry" "Entry") = true then (m_Entry___eq [eD t S, eD t' S'] μ).bind fun r μ3 => match r with
      | .bl z => Rs.ok (D.bl (if neg = true then !z else z)) μ3
      | _ => .no else .no) = _
  rw [if_pos ⟨by decide +kernel, by decide +kernel, by decide +kernel⟩, m_eq ht ht' h h']
  rfl
end
end
end My
namespace My
open PySem PySem.Spec PyProof.Rows L2
section
variable {P : Program} [hP : OkP fileS P] {w : World} {K : PySem.W.Frag} {mg : Str → Option Value} {base : Heap}
section
variable {μ : Store} {w : Codes} {T R : Tb} {env : En} {m : Mo D} {n : Nat}
theorem dictP_T (h : m env μ = .ok (.lst (T.map rowE)) μ) (hn : (T.map (·.1)).Nodup) : mDictP m env μ = .ok (T.map fun p : Codes × List Codes => D.str p.1, T.map fun p : Codes × List Codes => tupS p.2) μ := by
  have m1 := mrg_T T []
  rw [mrgT_nil hn] at m1
  unfold mDictP
  rw [h]
  show (match unprD (T.map rowE) with
    | some q => (match mrgKD (([] : Tb).map fun p : Codes × List Codes => D.str p.1) (([] : Tb).map fun p : Codes × List Codes => tupS p.2) q.1 q.2 with
      | some r => Rs.ok r μ
      | none => .no)
    | none => .no) = _
  rw [unpr_T]
  dsimp only
  rw [m1]
abbrev tbC (T : Tb) : Cell := .dic false (T.map fun p : Codes × List Codes => D.str p.1) (T.map fun p : Codes × List Codes => tupS p.2)
theorem put_one {x0 x1 x3 x4 : Option D} {p : Codes × List Codes} (hl : T.length < 1000) : lb_l_put_2 [x0, x1, some (.ref μ.length), some (.str p.1), some (tupS p.2)] (μ ++ [tbC T]) = .nx [x0, x1, some (.ref μ.length), some (.str p.1), some (tupS p.2)] (μ ++ [tbC (putT T p.1 p.2)]) := by
  unfold lb_l_put_2 sSetIxD
  simp only [mVar, List.getElem?_cons_zero, List.getElem?_cons_succ, lastT, put_T]
  rw [if_pos ⟨pure_strs _, by rw [List.length_map]; omega⟩, setT]
theorem put_go {x0 x1 : Option D} : ∀ (R T : Tb) (x3 x4 : Option D), F2 n x3 → F2 n x4 → T.length + R.length < 1000 →
    ∃ y3 y4, forGo none (tgT 2 (tgCons (tgName 3) (tgCons (tgName 4) tgNil))) lb_l_put_2 (R.map rowE) [x0, x1, some (.ref μ.length), x3, x4] (μ ++ [tbC T]) = .nx [x0, x1, some (.ref μ.length), y3, y4] (μ ++ [tbC (mergeT T R)]) ∧ F2 n y3 ∧ F2 n y4
  | [], T, x3, x4, h3, h4, _ => ⟨x3, x4, rfl, h3, h4⟩
  | p :: R, T, x3, x4, h3, h4, hl => by
    rw [List.length_cons] at hl
    have l1 := put_len (T := T) (w := p.1) (vs := p.2)
    obtain ⟨y3, y4, ih, g3, g4⟩ := put_go R (putT T p.1 p.2) (some (.str p.1)) (some (tupS p.2)) (f2_pure rfl) (f2_pure (pure_strs _)) (by omega)
    refine ⟨y3, y4, ?_, g3, g4⟩
    rw [List.map_cons, forGo_nx (env1 := [x0, x1, some (.ref μ.length), some (.str p.1), some (tupS p.2)]) rfl (put_one (x3 := x3) (x4 := x4) (by omega)), ih]
    rfl
theorem fin_dic {N : Store} {T : Tb} (hN : N.length = n) : finV n (N ++ [tbC T]) (some (.ref n)) = some (some (dE T)) := by
  subst hN
  unfold finV
  dsimp only
  show (match (if N.length < N.length then Rs.ok (D.ref N.length) ((N ++ [tbC T]).take N.length) else (match (N ++ [tbC T])[N.length]? with
    | some c => Rs.ok (frzC c) ((N ++ [tbC T]).take N.length)
    | none => .no)) with
    | .ok d' _ => some (some d')
    | _ => none) = _
  rw [if_neg (Nat.lt_irrefl _), List.getElem?_concat_length]
  rfl
theorem ne_T {v : List Codes} (hv : ∀ x ∈ v, asc x) : dNe μ (tupS v) (.tup []) = some (.bl (!decide (v = []))) := by
  have b := bEq_tups (μ := μ) (xs := v) (ys := []) hv (fun x hx => by cases hx)
  unfold dNe
  show (bEq μ (tupS v) (.tup (([] : List Codes).map D.str))).map (fun b => D.bl (!b)) = _
  rw [b]
  rfl
theorem pure_rowE (R : Tb) : pureD (.lst (R.map rowE)) = true := pure_rows R
theorem ix_row (h : TbOk T) {p : Codes × List Codes} (hp : p ∈ T) : dIxD μ (dE T) (.str p.1) = some (tupS p.2) := by
  have := ix_T (μ := μ) h.nd (w := p.1) (List.mem_map_of_mem hp)
  rw [valsT_mem h.nd hp] at this
  exact this
theorem p_put (hT : TbOk T) (hR : RwOk R) (hl : T.length + R.length < 64) : m_l_put [dE T, .lst (R.map rowE)] μ = .ok (dE (neT (mergeT T R))) μ := by
  obtain ⟨hM, _⟩ := mrgT_ok hR hT hl
  have fT : F2 μ.length (some (dE T)) := f2_pure pure_dE
  have fR : F2 μ.length (some (.lst (R.map rowE))) := f2_pure (pure_rowE R)
  obtain ⟨DT, hDT⟩ : ∃ DT, DT = dE T := ⟨_, rfl⟩
  obtain ⟨DR, hDR⟩ : ∃ DR, DR = D.lst (R.map rowE) := ⟨_, rfl⟩
  have s0 : ((sAsg (mCellD (mDictP (mFz (mLc (mKeys (mVar 0)) (tgName 3) (mC true) le_l_put_1 [3])))) (tgName 2))) [some DT, some DR, none, none, none] μ = .nx [some DT, some DR, some (.ref μ.length), none, none] (μ ++ [tbC T]) := by
    have lc : mLc (mKeys (mVar 0)) (tgName 3) (mC true) le_l_put_1 [3] [some DT, some DR, none, none, none] μ = .ok (T.map rowE) μ := by
      refine lc_map (fun p : Codes × List Codes => D.str p.1) rowE (by rw [hDT]; rfl) (by have := hT.ln; omega) fun p hp => ⟨[some DT, some DR, none, some (.str p.1), none], rfl, rfl, ?_⟩
      have ix := ix_row (μ := μ) hT hp
      unfold le_l_put_1 mTup
      rw [cons_ok (x := .str p.1) rfl (cons_ok (op_two (x := DT) (y := .str p.1) rfl rfl (by rw [hDT]; exact ix)) nil_ok)]
      rfl
    have d := dictP_T (fz_of lc) hT.nd
    have c : mCellD (mDictP (mFz (mLc (mKeys (mVar 0)) (tgName 3) (mC true) le_l_put_1 [3]))) [some DT, some DR, none, none, none] μ = .ok (.ref μ.length) (μ ++ [tbC T]) := by
      unfold mCellD
      rw [d]
      show (if pureL (T.map fun p : Codes × List Codes => tupS p.2) = true then Rs.ok (D.ref μ.length) (μ ++ [tbC T]) else .no) = _
      rw [if_pos (pure_tups T)]
    unfold sAsg
    rw [c]
    rfl
  obtain ⟨y3, y4, g, g3, g4⟩ := put_go (μ := μ) (n := μ.length) (x0 := some DT) (x1 := some DR) R T none none f2_none f2_none (by omega)
  have s1 : ((sFor (mIter (mVar 1)) (tgT 2 (tgCons (tgName 3) (tgCons (tgName 4) tgNil))) lb_l_put_2)) [some DT, some DR, some (.ref μ.length), none, none] (μ ++ [tbC T]) = .nx [some DT, some DR, some (.ref μ.length), y3, y4] (μ ++ [tbC (mergeT T R)]) := by
    unfold sFor
    have it : mIter (mVar 1) [some DT, some DR, some (.ref μ.length), none, none] (μ ++ [tbC T]) = .ok (R.map rowE, none) (μ ++ [tbC T]) := by rw [hDR]; rfl
    rw [it]
    exact g
  have bl : sBlk lb_l_put_5 [some DT, some DR, none, none, none] μ = .nx [some DT, some DR, some (dE (mergeT T R)), y3, y4] μ := by
    have all : lb_l_put_5 [some DT, some DR, none, none, none] μ = .nx [some DT, some DR, some (.ref μ.length), y3, y4] (μ ++ [tbC (mergeT T R)]) := by
      unfold lb_l_put_5
      rw [seq_nx s0]
      exact s1
    rw [blk_nx all (finE_cons (by rw [hDT]; exact fT _) (finE_cons (by rw [hDR]; exact fR _) (finE_cons (fin_dic rfl) (finE_cons (g3 _) (finE_cons (g4 _) rfl))))), List.take_left' rfl, ← hDT, ← hDR]
  have s2 : ((sRet (mFzD (mDictP (mFz (mLc (mKeys (mVar 2)) (tgName 3) lt_l_put_4 le_l_put_3 [3])))))) [some DT, some DR, some (dE (mergeT T R)), y3, y4] μ = .rt (dE (neT (mergeT T R))) μ := by
    have lc : mLc (mKeys (mVar 2)) (tgName 3) lt_l_put_4 le_l_put_3 [3] [some DT, some DR, some (dE (mergeT T R)), y3, y4] μ = .ok ((neT (mergeT T R)).map rowE) μ := by
      refine lc_flt (it := mKeys (mVar 2)) (tg := tgName 3) (t := lt_l_put_4) (e := le_l_put_3) (vs := [3]) (env := [some DT, some DR, some (dE (mergeT T R)), y3, y4]) (fun p : Codes × List Codes => D.str p.1) (fun p => !decide (p.2 = [])) rowE rfl (by have := hM.ln; omega) fun p hp => ⟨[some DT, some DR, some (dE (mergeT T R)), some (.str p.1), y4], rfl, ?_, fun _ => ?_⟩
      · have ix := ix_row (μ := μ) hM hp
        unfold lt_l_put_4
        exact test_of (op_two (op_two (x := dE (mergeT T R)) (y := .str p.1) rfl rfl ix) rfl (ne_T (tb_asc hM p hp).2))
      · have ix := ix_row (μ := μ) hM hp
        unfold le_l_put_3 mTup
        rw [cons_ok (x := .str p.1) rfl (cons_ok (op_two (x := dE (mergeT T R)) (y := .str p.1) rfl rfl ix) nil_ok)]
        rfl
    have d := dictP_T (fz_of lc) (neT_ok hM).nd
    unfold sRet mFzD
    rw [d]
    rfl
  rw [← hDT, ← hDR]
  refine fnD_val (μ' := μ) (ν := []) (E := [some DT, some DR, none, none, none]) rfl rfl rfl ?_ (und_of_pure _ pure_dE) (fun k z => by cases z)
  show b_l_put [some DT, some DR, none, none, none] μ = _
  unfold b_l_put
  rw [seq_nx bl, s2, List.append_nil]
end
end
end My
namespace My
open PySem PySem.Spec PyProof.Rows L2
section
variable {P : Program} [hP : OkP fileS P] {w : World} {K : PySem.W.Frag} {mg : Str → Option Value} {base : Heap}
section
variable {μ : Store} {j n : Nat} {cs : List Int}
def VLs : List Codes := [[97], [65], [98], [32], [48], [97, 61, 98]]
theorem VLs_ok : ∀ v ∈ VLs, isV v = true := by decide
theorem p_ltext (hc : cs.length ≤ 63) (hs : Ds μ j (n + 1)) : ∃ (t : Codes) (μ' : Store), m_l_text [dmD cs j] μ = .ok (.str t) μ' ∧ t ∈ NTL ∧ Dz μ j n μ' := by
  obtain ⟨i, d, μ1, e, hi, w⟩ := p_of (cs := cs) (xs := NTL.map D.str) hc hs (by unfold NTL; simp)
  obtain ⟨t, ht, rfl⟩ := List.mem_map.mp (List.mem_of_getElem? hi)
  refine ⟨t, μ1, ?_, ht, w⟩
  obtain ⟨M, hM⟩ : ∃ M, M = dmD cs j := ⟨_, rfl⟩
  rw [← hM] at e ⊢
  refine fnK_of (b := b_l_text) (E := [some M]) rfl rfl ?_
  unfold b_l_text
  exact ret_s ((call_s (cons_ok (x := M) rfl (cons_ok (x := .lst (NTL.map D.str)) rfl nil_ok))).trans e)
theorem vals_go (hc : cs.length ≤ 63) {x1 : Option D} : ∀ (ds : List D) (μ : Store) (n : Nat), Ds μ j (n + ds.length) →
    ∃ (vs : List Codes) (μ' : Store), lcGo none (tgName 1) (mC true) le_l_values_1 [some (dmD cs j), x1] ds μ = .ok (vs.map D.str) μ' ∧ vs.length = ds.length ∧ (∀ v ∈ vs, isV v = true) ∧ Dz μ j n μ'
  | [], μ, n, h => ⟨[], μ, rfl, rfl, (fun _ z => (nomatch z)), h.refl⟩
  | d :: ds, μ, n, h => by
    rw [List.length_cons] at h
    obtain ⟨i, y, μ1, e, hi, w⟩ := p_of (cs := cs) (xs := VLs.map D.str) (n := n + ds.length) hc (h.less (by omega)) (by unfold VLs; simp)
    obtain ⟨v, hv, rfl⟩ := List.mem_map.mp (List.mem_of_getElem? hi)
    obtain ⟨vs, μ2, e2, hl, hall, w2⟩ := vals_go hc (x1 := x1) ds μ1 n w.ds
    obtain ⟨M, hM⟩ : ∃ M, M = dmD cs j := ⟨_, rfl⟩
    rw [← hM] at e e2 ⊢
    have el : le_l_values_1 [some M, some d] μ = .ok (.str v) μ1 := by
      unfold le_l_values_1
      exact (call_s (cons_ok (x := M) rfl (cons_ok (x := .lst (VLs.map D.str)) rfl nil_ok))).trans e
    refine ⟨v :: vs, μ2, ?_, by rw [List.length_cons, List.length_cons, hl], fun x hx => ?_, w.trans w2⟩
    · rw [lcGo_yes (env1 := [some M, some d]) (μ1 := μ) (x := .str v) (μ2 := μ1) rfl rfl el, e2]
      rfl
    · rcases List.mem_cons.mp hx with rfl | hx
      · exact VLs_ok _ hv
      · exact hall x hx
theorem p_lvalues (hc : cs.length ≤ 63) (hs : Ds μ j (n + 4)) : ∃ (vs : List Codes) (μ' : Store), m_l_values [dmD cs j] μ = .ok (tupS vs) μ' ∧ vs.length ≤ 3 ∧ (∀ v ∈ vs, isV v = true) ∧ Dz μ j n μ' := by
  obtain ⟨q, μ1, e1, hq, w1⟩ := p_draw (cs := cs) (b := 4) (n := n + 3) hc hs (by decide)
  obtain ⟨vs, μ2, e2, hl, hall, w2⟩ := vals_go (cs := cs) (j := j) hc (x1 := none) (rngL 0 q) μ1 n (w1.ds.less (by rw [rngN_len]; omega))
  rw [rngN_len] at hl
  refine ⟨vs, μ2, ?_, by omega, hall, (w1.trans w2).less (by omega)⟩
  have e1 : m_l_draw [dmD cs j, .int 4] μ = .ok (.int (q : Int)) μ1 := e1
  obtain ⟨M, hM⟩ : ∃ M, M = dmD cs j := ⟨_, rfl⟩
  rw [← hM] at e1 e2 ⊢
  refine fnK_of (b := b_l_values) (E := [some M, none]) rfl rfl ?_
  have rg : mRange1 (mCons (mCall m_l_draw (mCons (mVar 0) (mCons (mC (D.int 4)) mNil))) mNil) [some M, none] μ = .ok (rngL 0 q, none) μ1 := rng_of (n := q) (by omega) (cons_s ((call_s (cons_ok (x := M) rfl (cons_ok rfl nil_ok))).trans e1) rfl)
  have lc : mLc (mRange1 (mCons (mCall m_l_draw (mCons (mVar 0) (mCons (mC (D.int 4)) mNil))) mNil)) (tgName 1) (mC true) le_l_values_1 [1] [some M, none] μ = .ok (vs.map D.str) μ2 := by
    unfold mLc
    rw [rg]
    show (if (rngL 0 q).length ≤ 50000 then _ else _) = _
    rw [if_pos (by rw [rngN_len]; omega)]
    exact e2
  unfold b_l_values
  refine ret_s ?_
  unfold mCb
  rw [cons_s (fz_s lc) (xs := []) rfl]
  rfl
end
end
end My
namespace My
open PySem PySem.Spec PyProof.Rows L2
section
variable {P : Program} [hP : OkP fileS P] {w : World} {K : PySem.W.Frag} {mg : Str → Option Value} {base : Heap}
section
variable {μ μ1 μ2 ν : Store} {j n k : Nat} {cs : List Int} {t : Codes} {S T R : Tb} {ws : List Codes} {env : En} {o : Mo D} {x5 x6 x7 x8 x9 x10 x11 M : D}
abbrev kOu : Codes := [111, 117]
structure ROk (k : Nat) (t : Codes) (T : Tb) : Prop where
  nt : t ∈ NTL
  ok : TbOk T
  ne : ∀ p ∈ T, p.2 ≠ []
  ln : T.length ≤ k
def rwD (p : Codes × Tb) : D := .lst [eD p.1 (srtE p.2), .str p.1, dE p.2]
theorem meth_e {nm : String} {n mm : Nat} {f : List D → Store → Rs D} {js : List Nat} {dd ds es xs : List D} {a k : Mo (List D)} (h1 : o env μ = .ok (eD t S) μ) (h2 : a env μ = .ok ds μ1) (h3 : k env μ1 = .ok es μ2) (l1 : ds.length = n) (l2 : es.length = mm) (hx : perm js ((eD t S :: ds) ++ dd ++ es) = xs) (hn : fnsE.contains nm = false) :
    mMethP ctab ["Entry"] nm n mm f js dd o a k env μ = f xs μ2 := by
  unfold mMethP
  rw [h1]
  show (if (["Entry"] : List String).contains "Entry" = true ∧ ctab.names.contains "Entry" = true ∧ fnsE.contains nm = false then (a env μ).bind fun ds μ1 => (k env μ1).bind fun es μ2 => if ds.length = n ∧ es.length = mm then f (perm js ((eD t S :: ds) ++ dd ++ es)) μ2 else .no else .no) = _
  rw [if_pos ⟨by decide +kernel, by decide +kernel, hn⟩, h2]
  show (k env μ1).bind _ = _
  rw [h3]
  show (if ds.length = n ∧ es.length = mm then f (perm js ((eD t S :: ds) ++ dd ++ es)) μ2 else .no) = _
  rw [if_pos ⟨l1, l2⟩, hx]
theorem methKw_e {nm : String} {kc : List Codes} {f : List D → Store → Rs D} {es : List D} {k : Mo (List D)} (h1 : o env μ = .ok (eD t S) μ) (h2 : k env μ = .ok es μ) (hn : fnsE.contains nm = false) (hc : es.length = kc.length) (h3 : kc.length ≤ 1000 ∧ kc.Nodup ∧ (kc.all fun l => !(["self"] : List Str).contains (SX.S l)) = true) :
    mMethKw ctab ["Entry"] nm 1 kc ["self"] f o mNil k env μ = f [eD t S, .dic false (kc.map D.str) es] μ := by
  unfold mMethKw
  rw [h1]
  show (if (["Entry"] : List String).contains "Entry" = true ∧ ctab.names.contains "Entry" = true ∧ fnsE.contains nm = false then (mNil env μ).nr.bind fun ds μ1 => (k env μ1).nr.bind fun es μ2 => if ds.length + 1 = 1 ∧ es.length = kc.length ∧ kc.length ≤ 1000 ∧ kc.Nodup ∧ (kc.all fun l => !(["self"] : List Str).contains (SX.S l)) = true then f ((eD t S :: ds) ++ [.dic false (kc.map D.str) es]) μ2 else .no else .no) = _
  rw [if_pos ⟨by decide +kernel, by decide +kernel, hn⟩]
  show (k env μ).nr.bind _ = _
  rw [h2]
  show (if ([] : List D).length + 1 = 1 ∧ es.length = kc.length ∧ kc.length ≤ 1000 ∧ kc.Nodup ∧ (kc.all fun l => !(["self"] : List Str).contains (SX.S l)) = true then f ((eD t S :: []) ++ [.dic false (kc.map D.str) es]) μ else .no) = _
  rw [if_pos ⟨rfl, hc, h3.1, h3.2.1, h3.2.2⟩]
  rfl
theorem mk_name (hl : μ.length = 2) (ht : t ∈ NTL) (h : o env μ = .ok (.str t) μ) : mMakeP false "Name" m_Name___init 1 0 [0, 1] [D.str []] (mC (D.cls "Name")) (mCons o mNil) mNil env μ = .ok (nameD t (lvN t) (orN t)) μ :=
  makeP_g (cell := nmC t) (ds := [.str t]) (es := []) (xs := [.ref μ.length, .str t]) rfl (cons_ok h nil_ok) rfl rfl rfl rfl (nm_mk hl ht)
theorem same_srt (hT : TbOk T) (hR : RwOk R) (hl : T.length + R.length < 64) : srtE (mergeT (srtE T) R) = srtE (neT (mergeT T R)) := by
  have lS : (srtE T).length ≤ T.length := by
    unfold srtE
    rw [List.length_map]
    refine Nat.le_trans (List.length_filter_le _ _) ?_
    rw [(sortT_perm _).length_eq, List.length_map]
    exact Nat.le_refl _
  obtain ⟨h1, _⟩ := mrgT_ok hR (srtE_ok hT) (by omega)
  obtain ⟨h2, _⟩ := mrgT_ok hR hT hl
  refine srtE_congr h1 (neT_ok h2) fun w => ?_
  rw [neT_vals h2.nd]
  exact mrgT_congr R _ _ (srtE_vals hT) w
theorem rok_put (h : ROk k t T) (hR : RwOk R) (hl : T.length + R.length < 64) : ROk (k + R.length) t (neT (mergeT T R)) := by
  obtain ⟨h2, h3⟩ := mrgT_ok hR h.ok hl
  refine ⟨h.nt, neT_ok h2, neT_ne, Nat.le_trans (List.length_filter_le _ _) (Nat.le_trans h3 ?_)⟩
  have := h.ln
  omega
theorem ROk.less {k' : Nat} (h : ROk k t T) (hk : k ≤ k') : ROk k' t T := ⟨h.nt, h.ok, h.ne, Nat.le_trans h.ln hk⟩
theorem ch_no {E : En} {q : Nat} {i : Int} {a : MS} (h5 : mVar 5 E μ = .ok (.int (q : Int)) μ) (h : (q : Int) ≠ i) : sIf (mTest (mOp dEq (mVar 5) (mC (D.int i)))) a sNext E μ = .nx E μ := by
  refine sif_n (test_of (op_two (x := .int (q : Int)) (y := .int i) h5 rfl ?_))
  show some (D.bl (decide ((q : Int) = i))) = _
  rw [decide_eq_false h]
theorem ch_yes {E : En} {q : Nat} {i : Int} {a b : MS} (h5 : mVar 5 E μ = .ok (.int (q : Int)) μ) (h : (q : Int) = i) : sIf (mTest (mOp dEq (mVar 5) (mC (D.int i)))) a b E μ = a E μ := by
  refine sif_t (test_of (op_two (x := .int (q : Int)) (y := .int i) h5 rfl ?_))
  show some (D.bl (decide ((q : Int) = i))) = _
  rw [decide_eq_true h]
theorem rows1 {a : Mo D} {w : Codes} {v : List Codes} (h : a env μ = .ok (tupS v) μ) : mFz (mLst (mCons (mTup (mCons (mC (D.str w)) (mCons a mNil))) mNil)) env μ = .ok (.lst ([(w, v)].map rowE)) μ := by
  have e : mTup (mCons (mC (D.str w)) (mCons a mNil)) env μ = .ok (rowE (w, v)) μ := by
    unfold mTup
    rw [cons_ok (x := .str w) rfl (cons_ok h nil_ok)]
    rfl
  exact fz_ok (cons_ok e nil_ok) (by simp)
theorem rows2 {a b : Mo D} {w w' : Codes} {v v' : List Codes} (h : a env μ = .ok (tupS v) μ) (h' : b env μ = .ok (tupS v') μ) : mFz (mLst (mCons (mTup (mCons (mC (D.str w)) (mCons a mNil))) (mCons (mTup (mCons (mC (D.str w')) (mCons b mNil))) mNil))) env μ = .ok (.lst ([(w, v), (w', v')].map rowE)) μ := by
  have e : mTup (mCons (mC (D.str w)) (mCons a mNil)) env μ = .ok (rowE (w, v)) μ := by
    unfold mTup
    rw [cons_ok (x := .str w) rfl (cons_ok h nil_ok)]
    rfl
  have e' : mTup (mCons (mC (D.str w')) (mCons b mNil)) env μ = .ok (rowE (w', v')) μ := by
    unfold mTup
    rw [cons_ok (x := .str w') rfl (cons_ok h' nil_ok)]
    rfl
  exact fz_ok (cons_ok e (cons_ok e' nil_ok)) (by simp)
theorem rev_ok (h : TbOk T) : TbOk T.reverse := ⟨by
  rw [List.map_reverse]
  exact (List.reverse_perm _).nodup_iff.mpr h.nd, fun p hp => h.wd p (List.mem_reverse.mp hp), fun p hp => h.vl p (List.mem_reverse.mp hp), by rw [List.length_reverse]; exact h.ln, fun p hp => h.sz p (List.mem_reverse.mp hp)⟩
theorem rev_vals (h : TbOk T) (w : Codes) : valsT T.reverse w = valsT T w := by
  by_cases hw : w ∈ T.map (·.1)
  · obtain ⟨p, hp, rfl⟩ := List.mem_map.mp hw
    rw [valsT_mem h.nd hp, valsT_mem (rev_ok h).nd (List.mem_reverse.mpr hp)]
  · rw [valsT_not hw, valsT_not fun z => hw ?_]
    rw [List.map_reverse] at z
    exact List.mem_reverse.mp z
theorem p_changed (hc : cs.length ≤ 63) (hl : μ.length = 2) (hr : ROk k t T) (hk : k ≤ 60) (hw : ∀ w ∈ ws, isW w = true) (h0 : ws ≠ []) (hwl : ws.length ≤ 100) (hs : Ds μ j (n + 16)) :
    ∃ (p : Codes × Tb) (μ' : Store), m_l_changed [dmD cs j, eD t (srtE T), .str t, dE T, .lst (ws.map D.str)] μ = .ok (rwD p) μ' ∧ ROk (k + 2) p.1 p.2 ∧ Dz μ j n μ' := by
  have hln := hr.ln
  obtain ⟨q, μ1, e1, hq, w1⟩ := p_draw (cs := cs) (b := 6) (n := n + 15) hc hs (by decide)
  have e1 : m_l_draw [dmD cs j, .int 6] μ = .ok (.int (q : Int)) μ1 := e1
  have l1 : μ1.length = 2 := w1.len.trans hl
  have hMt := fun (nn : Nat) (N : Store) (h : Ds N j (nn + 1)) => p_ltext (cs := cs) (j := j) hc h
  have hMv := fun (nn : Nat) (N : Store) (h : Ds N j (nn + 4)) => p_lvalues (cs := cs) (j := j) hc h
  have hMd := fun (nn : Nat) (N : Store) (h : Ds N j (nn + 1)) => p_draw (cs := cs) (j := j) (b := 2) hc h (by decide)
  have hMo := fun (nn : Nat) (N : Store) (xs : List D) (h : Ds N j (nn + 1)) (hx : xs ≠ []) => p_of (cs := cs) (j := j) (xs := xs) hc h hx
  obtain ⟨M, hM⟩ : ∃ M, M = dmD cs j := ⟨_, rfl⟩
  rw [← hM] at e1
  simp only [← hM] at hMt hMv hMd hMo
  obtain ⟨EN, hEN⟩ : ∃ EN, EN = eD t (srtE T) := ⟨_, rfl⟩
  obtain ⟨DT, hDT⟩ : ∃ DT, DT = dE T := ⟨_, rfl⟩
  obtain ⟨WS, hWS⟩ : ∃ WS, WS = D.lst (ws.map D.str) := ⟨_, rfl⟩
  obtain ⟨E, hE⟩ : ∃ E : Option D → Option D → Option D → Option D → Option D → Option D → En, E = fun x6 x7 x8 x9 x10 x11 => [some M, some EN, some (.str t), some DT, some WS, some (.int (q : Int)), x6, x7, x8, x9, x10, x11, none] := ⟨_, rfl⟩
  have g0 : ∀ {x6 x7 x8 x9 x10 x11 N}, mVar 0 (E x6 x7 x8 x9 x10 x11) N = .ok M N := by intros; rw [hE]; rfl
  have g1 : ∀ {x6 x7 x8 x9 x10 x11 N}, mVar 1 (E x6 x7 x8 x9 x10 x11) N = .ok (eD t (srtE T)) N := by intros; rw [hE, ← hEN]; rfl
  have g2 : ∀ {x6 x7 x8 x9 x10 x11 N}, mVar 2 (E x6 x7 x8 x9 x10 x11) N = .ok (.str t) N := by intros; rw [hE]; rfl
  have g3 : ∀ {x6 x7 x8 x9 x10 x11 N}, mVar 3 (E x6 x7 x8 x9 x10 x11) N = .ok (dE T) N := by intros; rw [hE, ← hDT]; rfl
  have g4 : ∀ {x6 x7 x8 x9 x10 x11 N}, mVar 4 (E x6 x7 x8 x9 x10 x11) N = .ok (.lst (ws.map D.str)) N := by intros; rw [hE, ← hWS]; rfl
  have g5 : ∀ {x6 x7 x8 x9 x10 x11 N}, mVar 5 (E x6 x7 x8 x9 x10 x11) N = .ok (.int (q : Int)) N := by intros; rw [hE]; rfl
  have g6 : ∀ {x6 x7 x8 x9 x10 x11 N}, mVar 6 (E (some x6) x7 x8 x9 x10 x11) N = .ok x6 N := by intros; rw [hE]; rfl
  have g7 : ∀ {x6 x7 x8 x9 x10 x11 N}, mVar 7 (E x6 (some x7) x8 x9 x10 x11) N = .ok x7 N := by intros; rw [hE]; rfl
  have g8 : ∀ {x6 x7 x8 x9 x10 x11 N}, mVar 8 (E x6 x7 (some x8) x9 x10 x11) N = .ok x8 N := by intros; rw [hE]; rfl
  have g9 : ∀ {x6 x7 x8 x9 x10 x11 N}, mVar 9 (E x6 x7 x8 (some x9) x10 x11) N = .ok x9 N := by intros; rw [hE]; rfl
  have g10 : ∀ {x6 x7 x8 x9 x10 x11 N}, mVar 10 (E x6 x7 x8 x9 (some x10) x11) N = .ok x10 N := by intros; rw [hE]; rfl
  have g11 : ∀ {x6 x7 x8 x9 x10 x11 N}, mVar 11 (E x6 x7 x8 x9 x10 (some x11)) N = .ok x11 N := by intros; rw [hE]; rfl
  have s0 : ((sAsg (mCall m_l_draw (mCons (mVar 0) (mCons (mC (D.int 6)) mNil))) (tgName 5))) [some M, some EN, some (.str t), some DT, some WS, none, none, none, none, none, none, none, none] μ = .nx (E none none none none none none) μ1 := by
    unfold sAsg
    rw [(call_s (cons_ok (x := M) rfl (cons_ok rfl nil_ok))).trans e1, hE]
    rfl
  have fin : ∀ (p : Codes × Tb) (μ' : Store), ROk (k + 2) p.1 p.2 → Dz μ1 j n μ' → ((sSeq (sIf (mTest (mOp dEq (mVar 5) (mC (D.int 0)))) (sSeq (sAsg (mCall m_l_text (mCons (mVar 0) mNil)) (tgName 6)) (sSeq (sIf (mTest (mOp dEq (mCall m_l_draw (mCons (mVar 0) (mCons (mC (D.int 2)) mNil))) (mC (D.int 0)))) (sRet (mFz (mLst (mCons (mMethP ctab ["Entry"] "renamed" 0 1 m_Entry_renamed [0, 1] [] (mVar 1) mNil (mCons (mVar 6) mNil)) (mCons (mVar 6) (mCons (mVar 3) mNil)))))) sNext) (sRet (mFz (mLst (mCons (mMethP ctab ["Entry"] "renamed" 1 0 m_Entry_renamed [0, 1] [] (mVar 1) (mCons (mCall m_l_of (mCons (mVar 0) (mCons (mFz (mLst (mCons (mVar 6) (mCons (mMakeP false "Name" m_Name___init 1 0 [0, 1] [D.str []] (mC (D.cls "Name")) (mCons (mVar 6) mNil) mNil) mNil)))) mNil))) mNil) mNil) (mCons (mVar 6) (mCons (mVar 3) mNil)))))))) sNext) (sSeq (sPar 7 8 (mCons (mCall m_l_values (mCons (mVar 0) mNil)) (mCons (mCall m_l_values (mCons (mVar 0) mNil)) mNil))) (sSeq (sIf (mTest (mOp dEq (mVar 5) (mC (D.int 1)))) (sRet (mFz (mLst (mCons (mMethKw ctab ["Entry"] "with_values" 1 [[107, 105, 110, 100], [111, 117]] ["self"] m_Entry_with_values (mVar 1) mNil (mCons (mVar 7) (mCons (mVar 8) mNil))) (mCons (mVar 2) (mCons (mCall m_l_put (mCons (mVar 3) (mCons (mFz (mLst (mCons (mTup (mCons (mC (D.str [107, 105, 110, 100])) (mCons (mVar 7) mNil))) (mCons (mTup (mCons (mC (D.str [111, 117])) (mCons (mVar 8) mNil))) mNil)))) mNil))) mNil)))))) sNext) (sSeq (sIf (mTest (mOp dEq (mVar 5) (mC (D.int 2)))) (sRet (mFz (mLst (mCons (mMethKw ctab ["Entry"] "with_values" 1 [[111, 117]] ["self"] m_Entry_with_values (mVar 1) mNil (mCons (mVar 7) mNil)) (mCons (mVar 2) (mCons (mCall m_l_put (mCons (mVar 3) (mCons (mFz (mLst (mCons (mTup (mCons (mC (D.str [111, 117])) (mCons (mVar 7) mNil))) mNil))) mNil))) mNil)))))) sNext) (sSeq (sIf (mTest (mOp dEq (mVar 5) (mC (D.int 3)))) (sRet (mFz (mLst (mCons (mMethKw ctab ["Entry"] "with_values" 1 [] ["self"] m_Entry_with_values (mVar 1) mNil mNil) (mCons (mVar 2) (mCons (mVar 3) mNil)))))) sNext) (sSeq (sAsg (mFz (mLst (mCons (mTup (mCons (mCall m_l_of (mCons (mVar 0) (mCons (mVar 4) mNil))) (mCons (mVar 7) mNil))) (mCons (mTup (mCons (mCall m_l_of (mCons (mVar 0) (mCons (mOp dAdd (mVar 4) (mFz (mLst (mCons (mC (D.str [107, 105, 110, 100])) mNil)))) mNil))) (mCons (mVar 8) mNil))) mNil)))) (tgName 9)) (sSeq (sAsg (mCall m_l_put (mCons (mVar 3) (mCons (mVar 9) mNil))) (tgName 10)) (sSeq (sAsg (mFzD (mDictP (mFz (mLc (mRevI (mCons (mFz (mCc lListD (mCons (mVar 10) mNil))) mNil)) (tgName 12) (mC true) le_l_changed_1 [12])))) (tgName 11)) (sRet (mFz (mLst (mCons (mMethCP "Entry" m_Entry_of (mC (D.cls "Entry")) (mCons (mPropP ctab ["Entry"] m_Entry_name (mVar 1)) (mCons (mVar 11) mNil))) (mCons (mVar 2) (mCons (mVar 10) mNil))))))))))))))) (E none none none none none none) μ1 = .rt (rwD p) μ' → ∃ (p : Codes × Tb) (μ' : Store), m_l_changed [M, EN, .str t, DT, WS] μ = .ok (rwD p) μ' ∧ ROk (k + 2) p.1 p.2 ∧ Dz μ j n μ' := fun p μ' h1 h2 h3 => by
    refine ⟨p, μ', ?_, h1, w1.trans h2⟩
    refine fnK_of (b := b_l_changed) (E := [some M, some EN, some (.str t), some DT, some WS, none, none, none, none, none, none, none, none]) rfl rfl ?_
    unfold b_l_changed
    rw [seq_nx s0]
    exact h3
  rw [← hEN, ← hDT, ← hWS, ← hM]
  by_cases q0 : (q : Int) = 0
  · -- another name
    obtain ⟨t', μ2, e2, ht', w2⟩ := hMt (n + 14) μ1 w1.ds
    obtain ⟨z, μ3, e3, hz, w3⟩ := hMd (n + 13) μ2 w2.ds
    have e3 : m_l_draw [M, .int 2] μ2 = .ok (.int (z : Int)) μ3 := e3
    have l3 : μ3.length = 2 := (w3.len.trans w2.len).trans l1
    have a0 : ((sAsg (mCall m_l_text (mCons (mVar 0) mNil)) (tgName 6))) (E none none none none none none) μ1 = .nx (E (some (.str t')) none none none none none) μ2 := by
      unfold sAsg
      rw [(call_s (cons_ok g0 nil_ok)).trans e2, hE]
      rfl
    have tt : mTest (mOp dEq (mCall m_l_draw (mCons (mVar 0) (mCons (mC (D.int 2)) mNil))) (mC (D.int 0))) (E (some (.str t')) none none none none none) μ2 = .ok (decide ((z : Int) = 0)) μ3 := by
      have o : mOp dEq (mCall m_l_draw (mCons (mVar 0) (mCons (mC (D.int 2)) mNil))) (mC (D.int 0)) (E (some (.str t')) none none none none none) μ2 = .ok (.bl (decide ((z : Int) = 0))) μ3 := by
        unfold mOp
        rw [(call_s (cons_ok g0 (cons_ok rfl nil_ok))).trans e3]
        rfl
      unfold mTest
      rw [o]
      rfl
    have hr' : ROk (k + 2) t' T := ⟨ht', hr.ok, hr.ne, by omega⟩
    have sre : srtE (srtE T) = srtE T := srtE_idem hr.ok
    by_cases z0 : (z : Int) = 0
    · rw [decide_eq_true z0] at tt
      refine fin (t', T) μ3 hr' ((w2.trans w3).less (by omega)) ?_
      refine seq_rt2 ((ch_yes g5 q0).trans ?_)
      rw [seq_nx a0]
      refine seq_rt2 ((sif_t tt).trans (ret_s ?_))
      have m := (meth_e (f := m_Entry_renamed) (nm := "renamed") (n := 0) (mm := 1) (js := [0, 1]) (dd := []) (o := mVar 1) (a := mNil) (k := mCons (mVar 6) mNil) (env := E (some (.str t')) none none none none none) (μ := μ3) g1 rfl (cons_ok g6 nil_ok) rfl rfl rfl (by decide)).trans (e_renamed ht' (nm_2 l3 ht') (srtE_ok hr.ok))
      rw [sre] at m
      exact fz_ok (cons_ok m (cons_ok g6 (cons_ok g3 nil_ok))) (by simp)
    · rw [decide_eq_false z0] at tt
      obtain ⟨i, d, μ4, e4, hi, w4⟩ := hMo (n + 12) μ3 [.str t', nameD t' (lvN t') (orN t')] w3.ds (by simp)
      have l4 : μ4.length = 2 := w4.len.trans l3
      have hN : m_need_name [d] μ4 = .ok (nameD t' (lvN t') (orN t')) μ4 := by
        have := List.mem_of_getElem? hi
        simp only [List.mem_cons, List.not_mem_nil, or_false] at this
        rcases this with rfl | rfl
        · exact nm_2 l4 ht'
        · exact need_same
      refine fin (t', T) μ4 hr' (((w2.trans w3).trans w4).less (by omega)) ?_
      refine seq_rt2 ((ch_yes g5 q0).trans ?_)
      rw [seq_nx a0, seq_nx (sif_n tt)]
      refine ret_s ?_
      have oc : mCall m_l_of (mCons (mVar 0) (mCons (mFz (mLst (mCons (mVar 6) (mCons (mMakeP false "Name" m_Name___init 1 0 [0, 1] [D.str []] (mC (D.cls "Name")) (mCons (mVar 6) mNil) mNil) mNil)))) mNil)) (E (some (.str t')) none none none none none) μ3 = .ok d μ4 :=
        (call_s (cons_ok g0 (cons_ok (fz_ok (cons_ok g6 (cons_ok (mk_name l3 ht' g6) nil_ok)) (by simp)) nil_ok))).trans e4
      have m := (meth_e (f := m_Entry_renamed) (nm := "renamed") (n := 1) (mm := 0) (js := [0, 1]) (dd := []) (o := mVar 1) (a := mCons (mCall m_l_of (mCons (mVar 0) (mCons (mFz (mLst (mCons (mVar 6) (mCons (mMakeP false "Name" m_Name___init 1 0 [0, 1] [D.str []] (mC (D.cls "Name")) (mCons (mVar 6) mNil) mNil) mNil)))) mNil))) mNil) (k := mNil) (env := E (some (.str t')) none none none none none) (μ := μ3) g1 (cons_s oc rfl) rfl rfl rfl rfl (by decide)).trans (e_renamed ht' hN (srtE_ok hr.ok))
      rw [sre] at m
      exact fz_s (lst_s (cons_s m (cons_ok g6 (cons_ok g3 nil_ok))) (by simp))
  · obtain ⟨va, μ2, e2, hva, hvv, w2⟩ := hMv (n + 11) μ1 w1.ds
    obtain ⟨vb, μ3, e3, hvb, hvw, w3⟩ := hMv (n + 7) μ2 w2.ds
    have st1 : ((sPar 7 8 (mCons (mCall m_l_values (mCons (mVar 0) mNil)) (mCons (mCall m_l_values (mCons (mVar 0) mNil)) mNil)))) (E none none none none none none) μ1 = .nx (E none (some (tupS va)) (some (tupS vb)) none none none) μ3 := by
      unfold sPar
      rw [cons_s ((call_s (cons_ok g0 nil_ok)).trans e2) (cons_s ((call_s (cons_ok g0 nil_ok)).trans e3) rfl), hE]
      rfl
    have st : ((sSeq (sIf (mTest (mOp dEq (mVar 5) (mC (D.int 0)))) (sSeq (sAsg (mCall m_l_text (mCons (mVar 0) mNil)) (tgName 6)) (sSeq (sIf (mTest (mOp dEq (mCall m_l_draw (mCons (mVar 0) (mCons (mC (D.int 2)) mNil))) (mC (D.int 0)))) (sRet (mFz (mLst (mCons (mMethP ctab ["Entry"] "renamed" 0 1 m_Entry_renamed [0, 1] [] (mVar 1) mNil (mCons (mVar 6) mNil)) (mCons (mVar 6) (mCons (mVar 3) mNil)))))) sNext) (sRet (mFz (mLst (mCons (mMethP ctab ["Entry"] "renamed" 1 0 m_Entry_renamed [0, 1] [] (mVar 1) (mCons (mCall m_l_of (mCons (mVar 0) (mCons (mFz (mLst (mCons (mVar 6) (mCons (mMakeP false "Name" m_Name___init 1 0 [0, 1] [D.str []] (mC (D.cls "Name")) (mCons (mVar 6) mNil) mNil) mNil)))) mNil))) mNil) mNil) (mCons (mVar 6) (mCons (mVar 3) mNil)))))))) sNext) (sSeq (sPar 7 8 (mCons (mCall m_l_values (mCons (mVar 0) mNil)) (mCons (mCall m_l_values (mCons (mVar 0) mNil)) mNil))) (sSeq (sIf (mTest (mOp dEq (mVar 5) (mC (D.int 1)))) (sRet (mFz (mLst (mCons (mMethKw ctab ["Entry"] "with_values" 1 [[107, 105, 110, 100], [111, 117]] ["self"] m_Entry_with_values (mVar 1) mNil (mCons (mVar 7) (mCons (mVar 8) mNil))) (mCons (mVar 2) (mCons (mCall m_l_put (mCons (mVar 3) (mCons (mFz (mLst (mCons (mTup (mCons (mC (D.str [107, 105, 110, 100])) (mCons (mVar 7) mNil))) (mCons (mTup (mCons (mC (D.str [111, 117])) (mCons (mVar 8) mNil))) mNil)))) mNil))) mNil)))))) sNext) (sSeq (sIf (mTest (mOp dEq (mVar 5) (mC (D.int 2)))) (sRet (mFz (mLst (mCons (mMethKw ctab ["Entry"] "with_values" 1 [[111, 117]] ["self"] m_Entry_with_values (mVar 1) mNil (mCons (mVar 7) mNil)) (mCons (mVar 2) (mCons (mCall m_l_put (mCons (mVar 3) (mCons (mFz (mLst (mCons (mTup (mCons (mC (D.str [111, 117])) (mCons (mVar 7) mNil))) mNil))) mNil))) mNil)))))) sNext) (sSeq (sIf (mTest (mOp dEq (mVar 5) (mC (D.int 3)))) (sRet (mFz (mLst (mCons (mMethKw ctab ["Entry"] "with_values" 1 [] ["self"] m_Entry_with_values (mVar 1) mNil mNil) (mCons (mVar 2) (mCons (mVar 3) mNil)))))) sNext) (sSeq (sAsg (mFz (mLst (mCons (mTup (mCons (mCall m_l_of (mCons (mVar 0) (mCons (mVar 4) mNil))) (mCons (mVar 7) mNil))) (mCons (mTup (mCons (mCall m_l_of (mCons (mVar 0) (mCons (mOp dAdd (mVar 4) (mFz (mLst (mCons (mC (D.str [107, 105, 110, 100])) mNil)))) mNil))) (mCons (mVar 8) mNil))) mNil)))) (tgName 9)) (sSeq (sAsg (mCall m_l_put (mCons (mVar 3) (mCons (mVar 9) mNil))) (tgName 10)) (sSeq (sAsg (mFzD (mDictP (mFz (mLc (mRevI (mCons (mFz (mCc lListD (mCons (mVar 10) mNil))) mNil)) (tgName 12) (mC true) le_l_changed_1 [12])))) (tgName 11)) (sRet (mFz (mLst (mCons (mMethCP "Entry" m_Entry_of (mC (D.cls "Entry")) (mCons (mPropP ctab ["Entry"] m_Entry_name (mVar 1)) (mCons (mVar 11) mNil))) (mCons (mVar 2) (mCons (mVar 10) mNil))))))))))))))) (E none none none none none none) μ1 = ((sSeq (sIf (mTest (mOp dEq (mVar 5) (mC (D.int 1)))) (sRet (mFz (mLst (mCons (mMethKw ctab ["Entry"] "with_values" 1 [[107, 105, 110, 100], [111, 117]] ["self"] m_Entry_with_values (mVar 1) mNil (mCons (mVar 7) (mCons (mVar 8) mNil))) (mCons (mVar 2) (mCons (mCall m_l_put (mCons (mVar 3) (mCons (mFz (mLst (mCons (mTup (mCons (mC (D.str [107, 105, 110, 100])) (mCons (mVar 7) mNil))) (mCons (mTup (mCons (mC (D.str [111, 117])) (mCons (mVar 8) mNil))) mNil)))) mNil))) mNil)))))) sNext) (sSeq (sIf (mTest (mOp dEq (mVar 5) (mC (D.int 2)))) (sRet (mFz (mLst (mCons (mMethKw ctab ["Entry"] "with_values" 1 [[111, 117]] ["self"] m_Entry_with_values (mVar 1) mNil (mCons (mVar 7) mNil)) (mCons (mVar 2) (mCons (mCall m_l_put (mCons (mVar 3) (mCons (mFz (mLst (mCons (mTup (mCons (mC (D.str [111, 117])) (mCons (mVar 7) mNil))) mNil))) mNil))) mNil)))))) sNext) (sSeq (sIf (mTest (mOp dEq (mVar 5) (mC (D.int 3)))) (sRet (mFz (mLst (mCons (mMethKw ctab ["Entry"] "with_values" 1 [] ["self"] m_Entry_with_values (mVar 1) mNil mNil) (mCons (mVar 2) (mCons (mVar 3) mNil)))))) sNext) (sSeq (sAsg (mFz (mLst (mCons (mTup (mCons (mCall m_l_of (mCons (mVar 0) (mCons (mVar 4) mNil))) (mCons (mVar 7) mNil))) (mCons (mTup (mCons (mCall m_l_of (mCons (mVar 0) (mCons (mOp dAdd (mVar 4) (mFz (mLst (mCons (mC (D.str [107, 105, 110, 100])) mNil)))) mNil))) (mCons (mVar 8) mNil))) mNil)))) (tgName 9)) (sSeq (sAsg (mCall m_l_put (mCons (mVar 3) (mCons (mVar 9) mNil))) (tgName 10)) (sSeq (sAsg (mFzD (mDictP (mFz (mLc (mRevI (mCons (mFz (mCc lListD (mCons (mVar 10) mNil))) mNil)) (tgName 12) (mC true) le_l_changed_1 [12])))) (tgName 11)) (sRet (mFz (mLst (mCons (mMethCP "Entry" m_Entry_of (mC (D.cls "Entry")) (mCons (mPropP ctab ["Entry"] m_Entry_name (mVar 1)) (mCons (mVar 11) mNil))) (mCons (mVar 2) (mCons (mVar 10) mNil))))))))))))) (E none (some (tupS va)) (some (tupS vb)) none none none) μ3 := by
      rw [seq_nx (ch_no g5 q0), seq_nx st1]
    have rw1 : ∀ {w : Codes} {v : List Codes}, isW w = true → (∀ x ∈ v, isV x = true) → v.length ≤ 3 → isW w = true ∧ (∀ x ∈ v, isV x = true) ∧ v.length ≤ 1000 := fun h1 h2 h3 => ⟨h1, h2, by omega⟩
    have wK : isW kKind = true := by decide
    have wO : isW kOu = true := by decide
    have h1L : ∀ R : Tb, RwOk R → R.length ≤ 2 → TbOk R → T.length + R.length < 64 ∧ (srtE T).length + R.length < 64 := fun R _ h2 _ => by
      have lS : (srtE T).length ≤ T.length := by
        unfold srtE
        rw [List.length_map]
        refine Nat.le_trans (List.length_filter_le _ _) ?_
        rw [(sortT_perm _).length_eq, List.length_map]
        exact Nat.le_refl _
      omega
    have tbOf : ∀ R : Tb, RwOk R → (R.map (·.1)).Nodup → R.length ≤ 2 → TbOk R := fun R h1 h2 h3 => ⟨h2, fun p hp => (h1 p hp).1, fun p hp => (h1 p hp).2.1, by omega, fun p hp => (h1 p hp).2.2⟩
    by_cases q1 : (q : Int) = 1
    · obtain ⟨R, hR⟩ : ∃ R : Tb, R = [(kKind, va), (kOu, vb)] := ⟨_, rfl⟩
      have rok : RwOk R := fun p hp => by
        rw [hR] at hp
        simp only [List.mem_cons, List.not_mem_nil, or_false] at hp
        rcases hp with rfl | rfl
        · exact rw1 wK hvv hva
        · exact rw1 wO hvw hvb
      have rl : R.length = 2 := by rw [hR]; rfl
      have tok := tbOf R rok (by rw [hR]; show [kKind, kOu].Nodup; decide) (by omega)
      obtain ⟨hl1, hl2⟩ := h1L R rok (by omega) tok
      refine fin (t, neT (mergeT T R)) μ3 ((rok_put hr rok hl1).less (by omega)) ((w2.trans w3).less (by omega)) ?_
      rw [st]
      refine seq_rt2 ((ch_yes g5 q1).trans (ret_s ?_))
      have m := (methKw_e (f := m_Entry_with_values) (nm := "with_values") (kc := [[107, 105, 110, 100], [111, 117]]) (o := mVar 1) (k := mCons (mVar 7) (mCons (mVar 8) mNil)) (env := E none (some (tupS va)) (some (tupS vb)) none none none) (μ := μ3) g1 (cons_ok g7 (cons_ok g8 nil_ok)) (by decide) rfl (by decide +kernel)).trans (e_with (R := [(kKind, va), (kOu, vb)]) hr.nt (srtE_ok hr.ok) (hR ▸ tok) (hR ▸ hl2))
      rw [← hR, same_srt hr.ok rok hl1] at m
      have pt := (call_s (f := m_l_put) (cons_ok g3 (cons_ok (rows2 (w := kKind) (w' := kOu) (a := mVar 7) (b := mVar 8) (env := E none (some (tupS va)) (some (tupS vb)) none none none) (μ := μ3) g7 g8) nil_ok))).trans (p_put hr.ok (hR ▸ rok) (hR ▸ hl1))
      rw [← hR] at pt
      exact fz_ok (cons_ok m (cons_ok g2 (cons_ok pt nil_ok))) (by simp)
    by_cases q2 : (q : Int) = 2
    · obtain ⟨R, hR⟩ : ∃ R : Tb, R = [(kOu, va)] := ⟨_, rfl⟩
      have rok : RwOk R := fun p hp => by
        rw [hR] at hp
        rw [List.mem_singleton.mp hp]
        exact rw1 wO hvv hva
      have rl : R.length = 1 := by rw [hR]; rfl
      have tok := tbOf R rok (by rw [hR]; show [kOu].Nodup; decide) (by omega)
      obtain ⟨hl1, hl2⟩ := h1L R rok (by omega) tok
      refine fin (t, neT (mergeT T R)) μ3 ((rok_put hr rok hl1).less (by omega)) ((w2.trans w3).less (by omega)) ?_
      rw [st, seq_nx (ch_no g5 q1)]
      refine seq_rt2 ((ch_yes g5 q2).trans (ret_s ?_))
      have m := (methKw_e (f := m_Entry_with_values) (nm := "with_values") (kc := [[111, 117]]) (o := mVar 1) (k := mCons (mVar 7) mNil) (env := E none (some (tupS va)) (some (tupS vb)) none none none) (μ := μ3) g1 (cons_ok g7 nil_ok) (by decide) rfl (by decide +kernel)).trans (e_with (R := [(kOu, va)]) hr.nt (srtE_ok hr.ok) (hR ▸ tok) (hR ▸ hl2))
      rw [← hR, same_srt hr.ok rok hl1] at m
      have pt := (call_s (f := m_l_put) (cons_ok g3 (cons_ok (rows1 (w := kOu) (a := mVar 7) (env := E none (some (tupS va)) (some (tupS vb)) none none none) (μ := μ3) g7) nil_ok))).trans (p_put hr.ok (hR ▸ rok) (hR ▸ hl1))
      rw [← hR] at pt
      exact fz_ok (cons_ok m (cons_ok g2 (cons_ok pt nil_ok))) (by simp)
    by_cases q3 : (q : Int) = 3
    · refine fin (t, T) μ3 (hr.less (by omega)) ((w2.trans w3).less (by omega)) ?_
      rw [st, seq_nx (ch_no g5 q1), seq_nx (ch_no g5 q2)]
      refine seq_rt2 ((ch_yes g5 q3).trans (ret_s ?_))
      have m := (methKw_e (f := m_Entry_with_values) (nm := "with_values") (kc := []) (o := mVar 1) (k := mNil) (env := E none (some (tupS va)) (some (tupS vb)) none none none) (μ := μ3) g1 rfl (by decide) rfl (by decide +kernel)).trans (e_with (R := []) hr.nt (srtE_ok hr.ok) nil_okT (by have := (srtE_ok hr.ok).ln; exact this))
      rw [show srtE (mergeT (srtE T) []) = srtE T from srtE_idem hr.ok] at m
      exact fz_ok (cons_ok m (cons_ok g2 (cons_ok g3 nil_ok))) (by simp)
    obtain ⟨i, d, μ4, e4, hi, w4⟩ := hMo (n + 6) μ3 (ws.map D.str) (w3.ds.less (by omega)) (fun z => h0 (List.map_eq_nil_iff.mp z))
    obtain ⟨wa, hwa, rfl⟩ := List.mem_map.mp (List.mem_of_getElem? hi)
    obtain ⟨i', d', μ5, e5, hi', w5⟩ := hMo (n + 5) μ4 ((ws ++ [kKind]).map D.str) w4.ds (by simp)
    obtain ⟨wb, hwb, rfl⟩ := List.mem_map.mp (List.mem_of_getElem? hi')
    have wbok : isW wb = true := by
      rcases List.mem_append.mp hwb with h | h
      · exact hw wb h
      · rw [List.mem_singleton.mp h]; exact wK
    obtain ⟨R, hR⟩ : ∃ R : Tb, R = [(wa, va), (wb, vb)] := ⟨_, rfl⟩
    have rok : RwOk R := fun p hp => by
      rw [hR] at hp
      simp only [List.mem_cons, List.not_mem_nil, or_false] at hp
      rcases hp with rfl | rfl
      · exact rw1 (hw wa hwa) hvv hva
      · exact rw1 wbok hvw hvb
    have rl : R.length = 2 := by rw [hR]; rfl
    have hl1 : T.length + R.length < 64 := by omega
    obtain ⟨T', hT'⟩ : ∃ T', T' = neT (mergeT T R) := ⟨_, rfl⟩
    have ok' := rok_put hr rok hl1
    rw [← hT'] at ok'
    refine fin (t, T') μ5 (ok'.less (by omega)) (((w2.trans w3).trans (w4.trans w5)).less (by omega)) ?_
    rw [st, seq_nx (ch_no g5 q1), seq_nx (ch_no g5 q2), seq_nx (ch_no g5 q3)]
    have ad : mOp dAdd (mVar 4) (mFz (mLst (mCons (mC (D.str [107, 105, 110, 100])) mNil))) (E none (some (tupS va)) (some (tupS vb)) none none none) μ4 = .ok (.lst ((ws ++ [kKind]).map D.str)) μ4 := by
      rw [List.map_append]
      refine op_two g4 (fz_ok (cons_ok rfl nil_ok) (by simp)) (add_l ?_)
      rw [List.length_map]
      simp only [List.length_cons, List.length_nil]
      omega
    have r1 : mTup (mCons (mCall m_l_of (mCons (mVar 0) (mCons (mVar 4) mNil))) (mCons (mVar 7) mNil)) (E none (some (tupS va)) (some (tupS vb)) none none none) μ3 = .ok (rowE (wa, va)) μ4 := by
      unfold mTup
      rw [cons_s ((call_s (cons_ok g0 (cons_ok g4 nil_ok))).trans e4) (cons_ok g7 nil_ok)]
      rfl
    have r2 : mTup (mCons (mCall m_l_of (mCons (mVar 0) (mCons (mOp dAdd (mVar 4) (mFz (mLst (mCons (mC (D.str [107, 105, 110, 100])) mNil)))) mNil))) (mCons (mVar 8) mNil)) (E none (some (tupS va)) (some (tupS vb)) none none none) μ4 = .ok (rowE (wb, vb)) μ5 := by
      unfold mTup
      rw [cons_s ((call_s (cons_ok g0 (cons_ok ad nil_ok))).trans e5) (cons_ok g8 nil_ok)]
      rfl
    have s9 : ((sAsg (mFz (mLst (mCons (mTup (mCons (mCall m_l_of (mCons (mVar 0) (mCons (mVar 4) mNil))) (mCons (mVar 7) mNil))) (mCons (mTup (mCons (mCall m_l_of (mCons (mVar 0) (mCons (mOp dAdd (mVar 4) (mFz (mLst (mCons (mC (D.str [107, 105, 110, 100])) mNil)))) mNil))) (mCons (mVar 8) mNil))) mNil)))) (tgName 9))) (E none (some (tupS va)) (some (tupS vb)) none none none) μ3 = .nx (E none (some (tupS va)) (some (tupS vb)) (some (.lst (R.map rowE))) none none) μ5 := by
      refine (asg_s (i := 9) (x := .lst (R.map rowE)) (fz_s (lst_s (cons_s r1 (cons_s r2 rfl)) (by simp)) |>.trans (by rw [hR]; rfl))).trans (by rw [hE]; rfl)
    have s10 : ((sAsg (mCall m_l_put (mCons (mVar 3) (mCons (mVar 9) mNil))) (tgName 10))) (E none (some (tupS va)) (some (tupS vb)) (some (.lst (R.map rowE))) none none) μ5 = .nx (E none (some (tupS va)) (some (tupS vb)) (some (.lst (R.map rowE))) (some (dE T')) none) μ5 := by
      refine (asg_s (i := 10) (x := dE T') (((call_s (f := m_l_put) (cons_ok g3 (cons_ok g9 nil_ok))).trans (p_put hr.ok rok hl1)).trans (by rw [hT']))).trans (by rw [hE]; rfl)
    have lc : mLc (mRevI (mCons (mFz (mCc lListD (mCons (mVar 10) mNil))) mNil)) (tgName 12) (mC true) le_l_changed_1 [12] (E none (some (tupS va)) (some (tupS vb)) (some (.lst (R.map rowE))) (some (dE T')) none) μ5 = .ok (T'.reverse.map rowE) μ5 := by
      have it : mRevI (mCons (mFz (mCc lListD (mCons (mVar 10) mNil))) mNil) (E none (some (tupS va)) (some (tupS vb)) (some (.lst (R.map rowE))) (some (dE T')) none) μ5 = .ok (T'.reverse.map fun p : Codes × List Codes => D.str p.1, none) μ5 := by
        have l := list_d (μ := μ5) T'
        have f : mFz (mCc lListD (mCons (mVar 10) mNil)) (E none (some (tupS va)) (some (tupS vb)) (some (.lst (R.map rowE))) (some (dE T')) none) μ5 = .ok (.lst ((T'.map (·.1)).map D.str)) μ5 := by
          simp only [mFz, mCc, mCons, mNil, Rs.bind, Rs.of, g10, l]
        unfold mRevI
        rw [cons_ok f nil_ok]
        show Rs.ok (((T'.map (·.1)).map D.str).reverse, (none : Gd)) μ5 = _
        rw [List.map_map, ← List.map_reverse]
        rfl
      refine lc_map (fun p : Codes × List Codes => D.str p.1) rowE it (by rw [List.length_reverse]; have := ok'.ok.ln; omega) fun p hp => ⟨(E none (some (tupS va)) (some (tupS vb)) (some (.lst (R.map rowE))) (some (dE T')) none).set 12 (some (.str p.1)), by rw [hE]; rfl, rfl, ?_⟩
      have ix := ix_row (μ := μ5) ok'.ok (List.mem_reverse.mp hp)
      unfold le_l_changed_1 mTup
      rw [cons_ok (x := .str p.1) (by rw [hE]; rfl) (cons_ok (op_two (x := dE T') (y := .str p.1) (by rw [hE]; rfl) (by rw [hE]; rfl) ix) nil_ok)]
      rfl
    have s11 : ((sAsg (mFzD (mDictP (mFz (mLc (mRevI (mCons (mFz (mCc lListD (mCons (mVar 10) mNil))) mNil)) (tgName 12) (mC true) le_l_changed_1 [12])))) (tgName 11))) (E none (some (tupS va)) (some (tupS vb)) (some (.lst (R.map rowE))) (some (dE T')) none) μ5 = .nx (E none (some (tupS va)) (some (tupS vb)) (some (.lst (R.map rowE))) (some (dE T')) (some (dE T'.reverse))) μ5 := by
      have d := dictP_T (fz_of lc) (rev_ok ok'.ok).nd
      refine (asg_s (i := 11) (x := dE T'.reverse) ?_).trans (by rw [hE]; rfl)
      unfold mFzD
      rw [d]
      rfl
    rw [seq_nx s9, seq_nx s10, seq_nx s11]
    refine ret_s ?_
    have m := (methCP_of (c := "Entry") (f := m_Entry_of) (a := mCons (mPropP ctab ["Entry"] m_Entry_name (mVar 1)) (mCons (mVar 11) mNil)) (env := E none (some (tupS va)) (some (tupS vb)) (some (.lst (R.map rowE))) (some (dE T')) (some (dE T'.reverse))) (μ := μ5) (cons_ok (prop_nm g1) (cons_ok g11 nil_ok))).trans (e_of_name hr.nt (rev_ok ok'.ok))
    rw [srtE_congr (rev_ok ok'.ok) ok'.ok (rev_vals ok'.ok)] at m
    exact fz_ok (cons_ok m (cons_ok g2 (cons_ok g10 nil_ok))) (by simp)
end
end
end My
namespace My
open PySem PySem.Spec PyProof.Rows L2
section
variable {P : Program} [hP : OkP fileS P] {w : World} {K : PySem.W.Frag} {mg : Str → Option Value} {base : Heap}
section
variable {μ : Store} {k : Nat} {t : Codes} {S T : Tb} {env : En} {a b : Mo D} {x y d : D}
theorem mEq_p {neg : Bool} (h1 : a env μ = .ok x μ) (h2 : b env μ = .ok y μ) (hc : clsOf μ x = none) (e : (if neg = true then dNe μ x y else dEq μ x y) = some d) : mEqA ctab neg eqTab a b env μ = .ok d μ := by
  unfold mEqA
  rw [h1]
  show (b env μ).bind _ = _
  rw [h2]
  show (match clsOf μ x with
  | some (c, _, _) => (match eqTab.lookup c, clsOf μ y with
    | some f, some (c', _, _) => if ctab.names.contains c = true ∧ ctab.names.contains c' = true ∧ (c == c' || !isSub ctab c' c) = true then (f [x, y] μ).bind fun r μ3 => match r with
      | .bl z => Rs.ok (D.bl (if neg = true then !z else z)) μ3
      | _ => .no else .no
    | _, _ => .no)
  | none => Rs.of (if neg = true then dNe μ x y else dEq μ x y) μ) = _
  rw [hc]
  dsimp only
  rw [e]
  rfl
theorem nm_tab : eqTab.lookup "Name" = some m_Name___eq := by rfl
theorem mEq_n {neg : Bool} (hl : μ.length = 2) (ht : t ∈ NTL) (h1 : a env μ = .ok (nameD t (lvN t) (orN t)) μ) (h2 : b env μ = .ok (nameD t (lvN t) (orN t)) μ) : mEqA ctab neg eqTab a b env μ = .ok (.bl (if neg = true then false else true)) μ := by
  unfold mEqA
  rw [h1]
  show (b env μ).bind _ = _
  rw [h2]
  show (match eqTab.lookup "Name", clsOf μ (nameD t (lvN t) (orN t)) with
    | some f, some (c', _, _) => if ctab.names.contains "Name" = true ∧ ctab.names.contains c' = true ∧ ("Name" == c' || !isSub ctab c' "Name") = true then (f [nameD t (lvN t) (orN t), nameD t (lvN t) (orN t)] μ).bind fun r μ3 => match r with
      | .bl z => Rs.ok (D.bl (if neg = true then !z else z)) μ3
      | _ => .no else .no
    | _, _ => .no) = _
  rw [nm_tab]
  show (if ctab.names.contains "Name" = true ∧ ctab.names.contains "Name" = true ∧ ("Name" == "Name" || !isSub ctab "Name" "Name") = true then (m_Name___eq [nameD t (lvN t) (orN t), nameD t (lvN t) (orN t)] μ).bind fun r μ3 => match r with
      | .bl z => Rs.ok (D.bl (if neg = true then !z else z)) μ3
      | _ => .no else .no) = _
  rw [if_pos ⟨by decide +kernel, by decide +kernel, by decide +kernel⟩, nm_eq hl ht]
  cases neg <;> rfl
theorem ixO_e {w : Codes} (h1 : a env μ = .ok (eD t S) μ) (h2 : b env μ = .ok (.str w) μ) (hS : TbOk S) : mIxO ctab "Entry" m_Entry___getitem a b env μ = .ok (tupS (valsT S w)) μ := by
  unfold mIxO
  rw [h1]
  show (b env μ).bind _ = _
  rw [h2]
  show (if "Entry" = "Entry" then m_Entry___getitem [eD t S, .str w] μ else .no) = _
  rw [if_pos rfl]
  exact get_item hS
theorem srt_keys (h : TbOk T) (hn : ∀ p ∈ T, p.2 ≠ []) : (srtE T).map (·.1) = sortT (T.map (·.1)) := by
  rw [srtE_keys]
  refine List.filter_eq_self.mpr fun w hw => ?_
  obtain ⟨p, hp, rfl⟩ := List.mem_map.mp ((sortT_perm _).mem_iff.mp hw)
  rw [valsT_mem h.nd hp, decide_eq_false (hn p hp)]
  rfl
theorem data_tups : ∀ ls : List (List Codes), toDataL (ls.map tupS) = some (ls.map fun l => .tuple (l.map dS))
  | [] => rfl
  | l :: ls => by
    have h : toData (tupS l) = some (.tuple (l.map dS)) := by
      show (toDataL (l.map D.str)).map PyData.tuple = _
      rw [toDataL_strs]
      rfl
    rw [List.map_cons, toDataL, h, data_tups ls]
    rfl
theorem lay_tups : ∀ {ls : List (List Codes)}, (∀ l ∈ ls, ∀ v ∈ l, asc v) → PyData.canLayAll0 (ls.map fun l => PyData.tuple (l.map dS)) = true ∧ PyData.depthAll (ls.map fun l => PyData.tuple (l.map dS)) ≤ 1
  | [], _ => ⟨by simp [PyData.canLayAll0], by simp [PyData.depthAll]⟩
  | l :: ls, h => by
    obtain ⟨b1, b2⟩ := lay_tups fun q hq => h q (.tail _ hq)
    have a1 : PyData.canLay0 (.tuple (l.map dS)) = true := by rw [PyData.canLay0, canLay_strs (h l (.head _))]
    have a2 : (PyData.tuple (l.map dS)).depth ≤ 1 := by simp [PyData.depth, depth_dS]
    rw [List.map_cons]
    refine ⟨?_, ?_⟩
    · rw [PyData.canLayAll0, a1, b1]
      rfl
    · rw [PyData.depthAll]
      omega
theorem eq_tups {ls : List (List Codes)} (h : ∀ l ∈ ls, ∀ v ∈ l, asc v) : dEq μ (.lst (ls.map tupS)) (.lst (ls.map tupS)) = some (.bl true) := by
  obtain ⟨b1, b2⟩ := lay_tups h
  have e : toData (.lst (ls.map tupS)) = some (.list (ls.map fun l => .tuple (l.map dS))) := by
    show (toDataL (ls.map tupS)).map PyData.list = _
    rw [data_tups]
    rfl
  have c : PyData.canLay0 (.list (ls.map fun l => PyData.tuple (l.map dS))) = true := by rw [PyData.canLay0, b1]
  have sh : SeqAt.shaped (.list (ls.map fun l => PyData.tuple (l.map dS))) = true := by
    unfold SeqAt.shaped
    rw [c, decide_eq_true (show (PyData.list (ls.map fun l => PyData.tuple (l.map dS))).depth ≤ 64 by
      rw [PyData.depth]
      omega)]
    rfl
  have q : bEq μ (.lst (ls.map tupS)) (.lst (ls.map tupS)) = some true := by
    show (match toData (.lst (ls.map tupS)), toData (.lst (ls.map tupS)) with
      | some a, some b => if SeqAt.shaped a = true ∧ SeqAt.shaped b = true then some (PyData.eqv a b) else none
      | _, _ => none) = _
    rw [e]
    dsimp only
    rw [if_pos ⟨sh, sh⟩, SeqAt.eqv_refl _ c]
  unfold dEq
  rw [q]
  rfl
theorem p_is_model (hl : μ.length = 2) (h : ROk k t T) : m_l_is_model [eD t (srtE T), .str t, dE T] μ = .ok (.bl true) μ := by
  have hln := h.ok.ln
  obtain ⟨L, hL⟩ : ∃ L, L = sortT (T.map (·.1)) := ⟨_, rfl⟩
  have Lm : ∀ w ∈ L, w ∈ T.map (·.1) := fun w hw => (sortT_perm _).mem_iff.mp (hL ▸ hw)
  have La : ∀ w ∈ L, asc w := fun w hw => by
    obtain ⟨p, hp, rfl⟩ := List.mem_map.mp (Lm w hw)
    exact (tb_asc h.ok p hp).1
  have Ll : L.length < 64 := by rw [hL, (sortT_perm _).length_eq, List.length_map]; exact hln
  obtain ⟨EN, hEN⟩ : ∃ EN, EN = eD t (srtE T) := ⟨_, rfl⟩
  obtain ⟨DT, hDT⟩ : ∃ DT, DT = dE T := ⟨_, rfl⟩
  obtain ⟨E, hE⟩ : ∃ E : Option D → Option D → En, E = fun x3 x4 => [some EN, some (.str t), some DT, x3, x4] := ⟨_, rfl⟩
  have g0 : ∀ {x3 x4}, mVar 0 (E x3 x4) μ = .ok (eD t (srtE T)) μ := by intros; rw [hE, ← hEN]; rfl
  have g1 : ∀ {x3 x4}, mVar 1 (E x3 x4) μ = .ok (.str t) μ := by intros; rw [hE]; rfl
  have g2 : ∀ {x3 x4}, mVar 2 (E x3 x4) μ = .ok (dE T) μ := by intros; rw [hE, ← hDT]; rfl
  have g3 : ∀ {x3 x4}, mVar 3 (E (some x3) x4) μ = .ok x3 μ := by intros; rw [hE]; rfl
  have g4 : ∀ {x3 x4}, mVar 4 (E x3 (some x4)) μ = .ok x4 μ := by intros; rw [hE]; rfl
  have s0 : ((sAsg (mFz (mCc lSortedL (mCons (mFz (mLc (mKeys (mVar 2)) (tgName 4) (mC true) le_l_is_model_1 [4])) mNil))) (tgName 3))) (E none none) μ = .nx (E (some (.lst (L.map D.str))) none) μ := by
    have lc : mLc (mKeys (mVar 2)) (tgName 4) (mC true) le_l_is_model_1 [4] (E none none) μ = .ok ((T.map (·.1)).map D.str) μ := by
      refine lc_map (it := mKeys (mVar 2)) (tg := tgName 4) (t := mC true) (e := le_l_is_model_1) (vs := [4]) (env := E none none) D.str D.str (as := T.map (·.1)) ?_ (by rw [List.length_map]; omega) fun w _ => ⟨E none (some (.str w)), by rw [hE]; rfl, rfl, g4⟩
      unfold mKeys
      rw [g2]
      show Rs.ok (T.map fun p => D.str p.1, (none : Gd)) μ = _
      rw [dE_keys]
    have so := sorted_l (μ := μ) (ls := T.map (·.1)) (by rw [List.length_map]; exact hln)
    refine (asg_s (i := 3) (x := .lst (L.map D.str)) ?_).trans (by rw [hE]; rfl)
    rw [hL]
    have f := fz_of lc
    simp only [mFz, mCc, mCons, mNil, Rs.bind, Rs.of, so] at f ⊢
    rw [f]
    simp only [so]
  have q1 : mTest (mEqA ctab true eqTab (mPropP ctab ["Name"] m_Name_text (mPropP ctab ["Entry"] m_Entry_name (mVar 0))) (mVar 1)) (E (some (.lst (L.map D.str))) none) μ = .ok false μ :=
    test_of (mEq_p (neg := true) (x := .str t) (y := .str t) (prop_tx (prop_nm g0)) g1 rfl (by
      show dNe μ (.str t) (.str t) = _
      show some (D.bl (!decide (t = t))) = _
      rw [decide_eq_true rfl]
      rfl))
  have q2 : mTest (mEqA ctab true eqTab (mPropP ctab ["Entry"] m_Entry_words (mVar 0)) (mCb dTuple (mCons (mVar 3) mNil))) (E (some (.lst (L.map D.str))) none) μ = .ok false μ := by
    have pw := prop_wd (o := mVar 0) (env := E (some (.lst (L.map D.str))) none) (μ := μ) (S := srtE T) g0
    rw [srt_keys h.ok h.ne, ← hL] at pw
    refine test_of (mEq_p (neg := true) (x := tupS L) (y := tupS L) pw (cb_one g3 rfl) rfl ?_)
    show (bEq μ (.tup (L.map D.str)) (.tup (L.map D.str))).map (fun b => D.bl (!b)) = _
    rw [bEq_tups La La, decide_eq_true rfl]
    rfl
  have q3 : mTest (mEqA ctab true eqTab (mPropP ctab ["Entry"] m_Entry_name (mVar 0)) (mMakeP false "Name" m_Name___init 1 0 [0, 1] [D.str []] (mC (D.cls "Name")) (mCons (mVar 1) mNil) mNil)) (E (some (.lst (L.map D.str))) none) μ = .ok false μ :=
    test_of (mEq_n (neg := true) hl h.nt (prop_nm g0) (mk_name hl h.nt g1))
  have s1 : ((sIf (mOr (mTest (mEqA ctab true eqTab (mPropP ctab ["Name"] m_Name_text (mPropP ctab ["Entry"] m_Entry_name (mVar 0))) (mVar 1))) (mOr (mTest (mEqA ctab true eqTab (mPropP ctab ["Entry"] m_Entry_words (mVar 0)) (mCb dTuple (mCons (mVar 3) mNil)))) (mTest (mEqA ctab true eqTab (mPropP ctab ["Entry"] m_Entry_name (mVar 0)) (mMakeP false "Name" m_Name___init 1 0 [0, 1] [D.str []] (mC (D.cls "Name")) (mCons (mVar 1) mNil) mNil))))) (sRet (mC (D.bl false))) sNext)) (E (some (.lst (L.map D.str))) none) μ = .nx (E (some (.lst (L.map D.str))) none) μ :=
    sif_n ((or_f q1).trans ((or_f q2).trans q3))
  have l2 : mLc (mIter (mVar 3)) (tgName 4) (mC true) le_l_is_model_2 [4] (E (some (.lst (L.map D.str))) none) μ = .ok ((L.map fun w => valsT T w).map tupS) μ := by
    rw [List.map_map]
    refine lc_map (it := mIter (mVar 3)) (tg := tgName 4) (t := mC true) (e := le_l_is_model_2) (vs := [4]) (env := E (some (.lst (L.map D.str))) none) D.str (fun w => tupS (valsT T w)) (as := L) (by unfold mIter; rw [g3]; rfl) (by omega) fun w hw => ⟨E (some (.lst (L.map D.str))) (some (.str w)), by rw [hE]; rfl, rfl, ?_⟩
    have := ixO_e (a := mVar 0) (b := mVar 4) (env := E (some (.lst (L.map D.str))) (some (.str w))) (μ := μ) (S := srtE T) g0 g4 (srtE_ok h.ok)
    rw [srtE_vals h.ok] at this
    exact this
  have l3 : mLc (mIter (mVar 3)) (tgName 4) (mC true) le_l_is_model_3 [4] (E (some (.lst (L.map D.str))) none) μ = .ok ((L.map fun w => valsT T w).map tupS) μ := by
    rw [List.map_map]
    refine lc_map (it := mIter (mVar 3)) (tg := tgName 4) (t := mC true) (e := le_l_is_model_3) (vs := [4]) (env := E (some (.lst (L.map D.str))) none) D.str (fun w => tupS (valsT T w)) (as := L) (by unfold mIter; rw [g3]; rfl) (by omega) fun w hw => ⟨E (some (.lst (L.map D.str))) (some (.str w)), by rw [hE]; rfl, rfl, ?_⟩
    exact op_two g2 g4 (ix_T h.ok.nd (Lm w hw))
  have s2 : ((sRet (mEqA ctab false eqTab (mFz (mLc (mIter (mVar 3)) (tgName 4) (mC true) le_l_is_model_2 [4])) (mFz (mLc (mIter (mVar 3)) (tgName 4) (mC true) le_l_is_model_3 [4]))))) (E (some (.lst (L.map D.str))) none) μ = .rt (.bl true) μ := by
    refine ret_s (mEq_p (neg := false) (fz_of l2) (fz_of l3) rfl (eq_tups fun l hl v hv => ?_))
    obtain ⟨w, hw, rfl⟩ := List.mem_map.mp hl
    obtain ⟨p, hp, rfl⟩ := List.mem_map.mp (Lm w hw)
    have hv : v ∈ valsT T p.1 := hv
    rw [valsT_mem h.ok.nd hp] at hv
    exact (tb_asc h.ok p hp).2 v hv
  rw [← hEN, ← hDT]
  refine fnK_of (b := b_l_is_model) (E := E none none) rfl (by rw [hE]; rfl) ?_
  unfold b_l_is_model
  rw [seq_nx s0, seq_nx s1]
  exact s2
end
end
end My
namespace My
open PySem PySem.Spec PyProof.Rows L2
section
variable {P : Program} [hP : OkP fileS P] {w : World} {K : PySem.W.Frag} {mg : Str → Option Value} {base : Heap}
section
variable {μ : Store} {t : Codes} {S : Tb} {env : En}
theorem nt_ok {x0 x3 : Option D} {p : Codes × List Codes} (hw : isW p.1 = true) (hv : ∀ v ∈ p.2, isV v = true) (hs : p.2.length ≤ 1000) : lb_need_table_2 [x0, some (.str p.1), some (tupS p.2), x3] μ = .nx [x0, some (.str p.1), some (tupS p.2), x3] μ := by
  have pw := p_is_word (μ := μ) hw
  have it : dIsiC ctab μ [tupS p.2, .ty "tuple"] = some (.bl true) := rfl
  have lc : mLc (mIter (mVar 2)) (tgName 3) (mC true) le_need_table_1 [3] [x0, some (.str p.1), some (tupS p.2), x3] μ = .ok (p.2.map fun _ => .bl true) μ := by
    refine lc_map D.str (fun _ => .bl true) (as := p.2) rfl (by omega) fun v hvm => ⟨[x0, some (.str p.1), some (tupS p.2), some (.str v)], rfl, rfl, ?_⟩
    unfold le_need_table_1
    have pv := p_is_value (μ := μ) (hv v hvm)
    simp only [mCall, mVar, mCons, mNil, Rs.bind, List.getElem?_cons_zero, List.getElem?_cons_succ, pv]
  have al := all_true p.2 μ
  unfold lb_need_table_2
  refine sif_n ?_
  simp only [mOr, mNot, mTest, mCall, mCb, mC, mFz, mVar, mCons, mNil, Rs.bind, Rs.of, List.getElem?_cons_zero, List.getElem?_cons_succ, pw, it, lc, al, Bool.not_true, Bool.false_eq_true, if_false]
theorem nt_no {x0 x3 : Option D} {w v : Codes} (hw : isW w = true) : lb_need_table_2 [x0, some (.str w), some (.str v), x3] μ = .rz "BadEntry" ["given"] [.str w] [x0, some (.str w), some (.str v), x3] μ := by
  have pw := p_is_word (μ := μ) hw
  have it : dIsiC ctab μ [.str v, .ty "tuple"] = some (.bl false) := rfl
  unfold lb_need_table_2
  refine (sif_t ?_).trans rfl
  simp only [mOr, mNot, mTest, mCall, mCb, mC, mVar, mCons, mNil, Rs.bind, Rs.of, List.getElem?_cons_zero, List.getElem?_cons_succ, pw, it, Bool.not_true, Bool.not_false, Bool.false_eq_true, if_false, if_true]
theorem nt_bad : m_need_table [.dic false [.str [107, 105, 110, 100], .str [111, 117]] [.tup [.str [97]], .str [97]]] μ = .rz "BadEntry" ["given"] [.str [111, 117]] μ := by
  obtain ⟨DD, hDD⟩ : ∃ DD : D, DD = .dic false [.str [107, 105, 110, 100], .str [111, 117]] [.tup [.str [97]], .str [97]] := ⟨_, rfl⟩
  have is : dIsiC ctab μ [DD, .ty "dict"] = some (.bl true) := by rw [hDD]; rfl
  have b1 := nt_ok (μ := μ) (x0 := some DD) (x3 := none) (p := (kKind, [[97]])) (by decide) (by decide) (by decide)
  have b2 := nt_no (μ := μ) (x0 := some DD) (x3 := none) (w := [111, 117]) (v := [97]) (by decide)
  have s1 : (sForIX (mVar 0) (tgT 2 (tgCons (tgName 1) (tgCons (tgName 2) tgNil))) lb_need_table_2) [some DD, none, none, none] μ = .rz "BadEntry" ["given"] [.str [111, 117]] [some DD, some (.str [111, 117]), some (.str [97]), none] μ := by
    unfold sForIX
    have v0 : mVar 0 [some DD, none, none, none] μ = .ok (.dic false [.str [107, 105, 110, 100], .str [111, 117]] [.tup [.str [97]], .str [97]]) μ := by rw [hDD]; rfl
    rw [v0]
    dsimp only
    have e : itmL [.str [107, 105, 110, 100], .str [111, 117]] [.tup [.str [97]], .str [97]] = [.tup [.str kKind, tupS [[97]]], .tup [.str [111, 117], .str [97]]] := rfl
    rw [e, forGo_nx (env1 := [some DD, some (.str kKind), some (tupS [[97]]), none]) rfl b1]
    have t2 : tgT 2 (tgCons (tgName 1) (tgCons (tgName 2) tgNil)) (.tup [.str [111, 117], .str [97]]) [some DD, some (.str kKind), some (tupS [[97]]), none] = some [some DD, some (.str [111, 117]), some (.str [97]), none] := rfl
    rw [forGo, if_pos gdOk_none, t2]
    dsimp only
    rw [b2]
  rw [← hDD]
  unfold m_need_table fnKX b_need_table
  rw [if_pos (by rfl)]
  rw [show (List.map some [DD] ++ List.replicate 3 none) = [some DD, none, none, none] from rfl]
  have s0 : ∀ k : MS, sSeq (sIf (mNot (mTest (mCb (dIsiC ctab) (mCons (mVar 0) (mCons (mC (D.ty "dict")) mNil))))) (sRaise "BadEntry" ["given"] (mCons (mVar 0) mNil)) sNext) k [some DD, none, none, none] μ = k [some DD, none, none, none] μ := fun k => by
    refine seq_nx (sif_n ?_)
    simp only [mNot, mTest, mCb, mC, mVar, mCons, mNil, Rs.bind, Rs.of, List.getElem?_cons_zero, is, Bool.not_true]
  rw [s0]
  unfold sSeq
  rw [s1]
theorem with_bad : m_Entry_with_values [eD t S, .dic false [.str [107, 105, 110, 100], .str [111, 117]] [.tup [.str [97]], .str [97]]] μ = .rz "BadEntry" ["given"] [.str [111, 117]] μ := by
  obtain ⟨R, hR⟩ : ∃ R : D, R = .dic false [.str [107, 105, 110, 100], .str [111, 117]] [.tup [.str [97]], .str [97]] := ⟨_, rfl⟩
  have nb := nt_bad (μ := μ)
  rw [← hR] at nb ⊢
  obtain ⟨E, hE⟩ : ∃ E : En, E = [some (eD t S), some R] := ⟨_, rfl⟩
  have v1 : mVar 1 E μ = .ok R μ := by rw [hE]; rfl
  have s0 : ((sDropX (mCallX m_need_table (mCons (mVar 1) mNil)))) E μ = .rz "BadEntry" ["given"] [.str [111, 117]] E μ := by
    simp only [sDropX, mCallX, mCons, mNil, Rs.nr, Rs.bind, v1, nb]
  unfold m_Entry_with_values fnDX b_Entry_with_values
  rw [if_pos (by rfl)]
  rw [show (List.map some [eD t S, R] ++ List.replicate 0 none) = E from by rw [hE]; rfl]
  unfold sSeq
  rw [s0]
  show (if undL μ.length [.str [111, 117]] = true then Rs.rz "BadEntry" ["given"] [.str [111, 117]] (μ.take μ.length) else .no) = _
  rw [if_pos (show undL μ.length [.str [111, 117]] = true from rfl), List.take_length]
theorem methX_e {nm : String} {f : List D → Store → Rs D} {o : Mo D} {x : D} {k : Mo (List D)} (h1 : o env μ = .ok (eD t S) μ) (h2 : k env μ = .ok [x] μ) (hn : fnsE.contains nm = false) : mMethX ctab ["Entry"] nm 1 0 f [0, 1] [] o k mNil env μ = f [eD t S, x] μ := by
  unfold mMethX
  rw [h1]
  show (if (["Entry"] : List String).contains "Entry" = true ∧ ctab.names.contains "Entry" = true ∧ fnsE.contains nm = false then (k env μ).nr.bind fun ds μ1 => (mNil env μ1).nr.bind fun es μ2 => if ds.length = 1 ∧ es.length = 0 then f (perm [0, 1] ((eD t S :: ds) ++ [] ++ es)) μ2 else .no else .no) = _
  rw [if_pos ⟨by decide +kernel, by decide +kernel, hn⟩, h2]
  rfl
theorem p_refused (hl : μ.length = 2) : m_l_refused [eD t S] μ = .ok (.bl true) μ := by
  obtain ⟨EN, hEN⟩ : ∃ EN, EN = eD t S := ⟨_, rfl⟩
  obtain ⟨E, hE⟩ : ∃ E : Option D → Option D → En, E = fun x1 x2 => [some EN, x1, x2] := ⟨_, rfl⟩
  have g0 : ∀ {x1 x2 N}, mVar 0 (E x1 x2) N = .ok (eD t S) N := by intros; rw [hE, ← hEN]; rfl
  have g1 : ∀ {x1 x2 N}, mVar 1 (E (some x1) x2) N = .ok x1 N := by intros; rw [hE]; rfl
  have g2 : ∀ {x1 x2 N}, mVar 2 (E x1 (some x2)) N = .ok x2 N := by intros; rw [hE]; rfl
  have l3 : ∀ X : List D, (μ ++ [Cell.lst X]).length = 3 := fun X => by rw [List.length_append, hl]; rfl
  have cl2 : ∀ X : List D, cellOf (μ ++ [.lst X]) 2 = some X := fun X => cellL hl
  have s0 : ((sAsg (mCell (mLst mNil)) (tgName 1))) (E none none) μ = .nx (E (some (.ref 2)) none) (μ ++ [.lst []]) := by
    refine (asg_s (i := 1) (x := .ref 2) (μ1 := μ ++ [.lst []]) ?_).trans (by rw [hE]; rfl)
    show (if pureL [] = true then Rs.ok (D.ref μ.length) (μ ++ [Cell.lst []]) else .no) = _
    rw [if_pos (show pureL [] = true from rfl), hl]
  have appX : ∀ {e : Mo D} {X : List D} {x2 : Option D} {c : String} {ns : List String} {zs : List D}, e (E (some (.ref 2)) x2) (μ ++ [.lst X]) = .rz c ns zs (μ ++ [.lst X]) → sDropX (mAppX (mVar 1) e) (E (some (.ref 2)) x2) (μ ++ [.lst X]) = .rz c ns zs (E (some (.ref 2)) x2) (μ ++ [.lst X]) := fun {e X x2 c ns zs} h => by
    have e2 : mAppX (mVar 1) e (E (some (.ref 2)) x2) (μ ++ [.lst X]) = .rz c ns zs (μ ++ [.lst X]) := by
      unfold mAppX
      rw [g1]
      simp only [Rs.nr, Rs.bind, cl2, Option.isSome_some, if_true, h]
    unfold sDropX
    rw [e2]
  have hand : ∀ {X : List D} {c : String} {w : Codes}, (ecs.lookup c).isSome = true → X.length < 1000 → sDrop (mApp (mVar 1) (mXfld ecs efs "given" (mVar 2))) (E (some (.ref 2)) (some (.err c ["given"] [.str w]))) (μ ++ [.lst X]) = .nx (E (some (.ref 2)) (some (.err c ["given"] [.str w]))) (μ ++ [.lst (X ++ [.str w])]) := fun {X c w} hc hX => by
    refine app_cell hl hl g1 ?_ rfl (by omega)
    unfold mXfld
    rw [g2]
    show (if (ecs.lookup c).isSome = true ∧ efs.contains "given" = true then Rs.of (getF "given" ["given"] [.str w]) (μ ++ [.lst X]) else .no) = _
    rw [if_pos ⟨hc, by decide +kernel⟩]
    rfl
  have s1 : ((sTryAs ecs "BadEntry" 2 lb_l_refused_1 lb_l_refused_2)) (E (some (.ref 2)) none) (μ ++ [.lst []]) = .nx (E (some (.ref 2)) none) (μ ++ [.lst [.str [111, 117]]]) := by
    have b : lb_l_refused_1 (E (some (.ref 2)) none) (μ ++ [.lst []]) = .rz "BadEntry" ["given"] [.str [111, 117]] (E (some (.ref 2)) none) (μ ++ [.lst []]) := by
      refine appX ?_
      have m := methKw_e (f := m_Entry_with_values) (nm := "with_values") (kc := [[107, 105, 110, 100], [111, 117]]) (o := mVar 0) (k := mCons (mTup (mCons (mC (D.str [97])) mNil)) (mCons (mC (D.str [97])) mNil)) (env := E (some (.ref 2)) none) (μ := μ ++ [.lst []]) (es := [.tup [.str [97]], .str [97]]) g0 rfl (by decide) rfl (by decide +kernel)
      exact m.trans with_bad
    unfold sTryAs
    rw [b]
    show (if subE ecs "BadEntry" "BadEntry" = true then _ else _) = _
    rw [if_pos (by decide +kernel)]
    have st : (E (some (.ref 2)) none).set 2 (some (.err "BadEntry" ["given"] [.str [111, 117]])) = E (some (.ref 2)) (some (.err "BadEntry" ["given"] [.str [111, 117]])) := by rw [hE]; rfl
    rw [st]
    unfold lb_l_refused_2
    rw [hand (by decide +kernel) (by decide)]
    rw [hE]
    rfl
  have s2 : ((sTryAs ecs "BadName" 2 lb_l_refused_3 lb_l_refused_4)) (E (some (.ref 2)) none) (μ ++ [.lst [.str [111, 117]]]) = .nx (E (some (.ref 2)) none) (μ ++ [.lst [.str [111, 117], .str [67, 110, 61, 97]]]) := by
    have b : lb_l_refused_3 (E (some (.ref 2)) none) (μ ++ [.lst [.str [111, 117]]]) = .rz "BadName" ["given"] [.str [67, 110, 61, 97]] (E (some (.ref 2)) none) (μ ++ [.lst [.str [111, 117]]]) := by
      refine appX ?_
      have m := methX_e (f := m_Entry_renamed) (nm := "renamed") (o := mVar 0) (env := E (some (.ref 2)) none) (μ := μ ++ [.lst [.str [111, 117]]]) (x := .str [67, 110, 61, 97]) (k := mCons (mC (D.str [67, 110, 61, 97])) mNil) g0 rfl (by decide)
      exact m.trans (e_renamed_rz (nm_bad (l3 _)))
    unfold sTryAs
    rw [b]
    show (if subE ecs "BadName" "BadName" = true then _ else _) = _
    rw [if_pos (by decide +kernel)]
    have st : (E (some (.ref 2)) none).set 2 (some (.err "BadName" ["given"] [.str [67, 110, 61, 97]])) = E (some (.ref 2)) (some (.err "BadName" ["given"] [.str [67, 110, 61, 97]])) := by rw [hE]; rfl
    rw [st]
    unfold lb_l_refused_4
    rw [hand (by decide +kernel) (by decide)]
    rw [hE]
    rfl
  have s3 : ((sRet (mOp dEq (mVar 1) (mFz (mLst (mCons (mC (D.str [111, 117])) (mCons (mC (D.str [67, 110, 61, 97])) mNil))))))) (E (some (.ref 2)) none) (μ ++ [.lst [.str [111, 117], .str [67, 110, 61, 97]]]) = .rt (.bl true) (μ ++ [.lst [.str [111, 117], .str [67, 110, 61, 97]]]) := by
    refine ret_s (op_two (x := .ref 2) (y := .lst [.str [111, 117], .str [67, 110, 61, 97]]) g1 rfl ?_)
    have e : toDataS (μ ++ [.lst [.str [111, 117], .str [67, 110, 61, 97]]]) (.ref 2) = some (.list [dS [111, 117], dS [67, 110, 61, 97]]) := by
      show (match cellOf (μ ++ [.lst [.str [111, 117], .str [67, 110, 61, 97]]]) 2 with
        | some ds => (toDataL ds).map PyData.list
        | none => none) = _
      rw [cl2]
      rfl
    have b : bEq (μ ++ [.lst [.str [111, 117], .str [67, 110, 61, 97]]]) (.ref 2) (.lst [.str [111, 117], .str [67, 110, 61, 97]]) = some true := by
      show (match toDataS (μ ++ [.lst [.str [111, 117], .str [67, 110, 61, 97]]]) (.ref 2), toData (.lst [.str [111, 117], .str [67, 110, 61, 97]]) with
        | some a, some b => if SeqAt.shaped a = true ∧ SeqAt.shaped b = true then some (PyData.eqv a b) else none
        | _, _ => none) = _
      rw [e]
      decide +kernel
    unfold dEq
    rw [b]
    rfl
  rw [← hEN]
  refine fnD_val (μ' := μ) (ν := [.lst [.str [111, 117], .str [67, 110, 61, 97]]]) (E := E none none) rfl (by rw [hE]; rfl) rfl ?_ rfl (fun k z => by cases z)
  unfold b_l_refused
  rw [seq_nx s0, seq_nx s1, seq_nx s2]
  exact s3
end
end
end My
namespace My
open PySem PySem.Spec PyProof.Rows L2
section
variable {P : Program} [hP : OkP fileS P] {w : World} {K : PySem.W.Frag} {mg : Str → Option Value} {base : Heap}
section
variable {μ : Store} {k k' : Nat} {t t' : Codes} {T T' : Tb}
theorem hits_T (h' : TbOk T') : ∀ L : Tb, (∀ p ∈ L, p.2 ≠ [] ∧ asc p.1 ∧ ∀ v ∈ p.2, asc v) → hitsK (keysM (T'.map (·.1))) (T'.map fun p => tupS p.2) (keysM (L.map (·.1))) (L.map fun p => tupS p.2) = some (L.all fun p => decide (valsT T' p.1 = p.2))
  | [], _ => rfl
  | p :: L, hL => by
    have ih := hits_T h' L fun q hq => hL q (.tail _ hq)
    obtain ⟨p0, p1, p2⟩ := hL p (.head _)
    have e : hitsK (keysM (T'.map (·.1))) (T'.map fun p => tupS p.2) (keysM ((p :: L).map (·.1))) ((p :: L).map fun p => tupS p.2) = (match getK (keysM (T'.map (·.1))) (T'.map fun p => tupS p.2) (.inr (SX.S p.1)) with
      | none => some false
      | some y => (match toData (tupS p.2), toData y with
        | some d, some e => if SeqAt.shaped d = true ∧ SeqAt.shaped e = true then (hitsK (keysM (T'.map (·.1))) (T'.map fun p => tupS p.2) (keysM (L.map (·.1))) (L.map fun p => tupS p.2)).map (PyData.eqv d e && ·) else none
        | _, _ => none)) := rfl
    rw [e, List.all_cons]
    have dt : ∀ l : List Codes, toData (tupS l) = some (.tuple (l.map dS)) := fun l => by
      show (toDataL (l.map D.str)).map PyData.tuple = _
      rw [toDataL_strs]
      rfl
    by_cases hw : p.1 ∈ T'.map (·.1)
    · obtain ⟨q, hq, hqp⟩ := List.mem_map.mp hw
      obtain ⟨i, hi⟩ := List.getElem?_of_mem hq
      have g := getK_some h'.nd (w := p.1) (i := i) (d := tupS q.2) (xs := T'.map fun p => tupS p.2) (by rw [List.getElem?_map, hi, ← hqp]; rfl) (by rw [List.getElem?_map, hi]; rfl)
      have vq : valsT T' p.1 = q.2 := by
        have := valsT_mem h'.nd hq
        rw [← this]
        exact congrArg _ hqp.symm
      rw [g]
      dsimp only
      rw [dt, dt]
      dsimp only
      rw [if_pos ⟨shaped_strs p2, shaped_strs (tb_asc h' q hq).2⟩, ih, vq]
      have ev : PyData.eqv (.tuple (p.2.map dS)) (.tuple (q.2.map dS)) = decide (p.2 = q.2) := by rw [PyData.eqv, eqvAll_dS]
      rw [ev]
      have sy : decide (q.2 = p.2) = decide (p.2 = q.2) := by
        by_cases z : p.2 = q.2
        · rw [decide_eq_true z, decide_eq_true z.symm]
        · rw [decide_eq_false z, decide_eq_false fun y => z y.symm]
      rw [sy]
      rfl
    · rw [getK_none hw]
      dsimp only
      rw [valsT_not hw, decide_eq_false fun z => p0 z.symm]
      rfl
theorem eq_dK (h : ROk k t T) (h' : ROk k' t' T') : dEqK μ (dE T) (dE T') = some (.bl (decide (srtE T = srtE T'))) := by
  have hh := hits_T h'.ok T fun p hp => ⟨h.ne p hp, (tb_asc h.ok p hp).1, (tb_asc h.ok p hp).2⟩
  have e : dEqK μ (dE T) (dE T') = (hitsK (keysM (T'.map (·.1))) (T'.map fun p => tupS p.2) (keysM (T.map (·.1))) (T.map fun p => tupS p.2)).map fun b => D.bl ((keysM (T.map (·.1))).length == (keysM (T'.map (·.1))).length && b) := by
    unfold dEqK
    rw [dkv_dE, dkv_dE]
  rw [e, hh]
  show some (D.bl _) = _
  have lk : ∀ T : Tb, (keysM (T.map (·.1))).length = T.length := fun T => by simp [keysM]
  rw [lk, lk]
  congr 2
  have kin : ∀ {A B : Tb}, TbOk A → (∀ p ∈ A, p.2 ≠ []) → (∀ p ∈ A, valsT B p.1 = p.2) → ∀ x ∈ A.map (·.1), x ∈ B.map (·.1) := fun {A B} hA hn hv x hx => by
    obtain ⟨p, hp, rfl⟩ := List.mem_map.mp hx
    by_cases z : p.1 ∈ B.map (·.1)
    · exact z
    · exact absurd ((valsT_not z).symm.trans (hv p hp)).symm (hn p hp)
  by_cases c : srtE T = srtE T'
  · rw [decide_eq_true c]
    have hv := (srtE_iff h.ok h'.ok).mp c
    have a1 : (T.all fun p => decide (valsT T' p.1 = p.2)) = true := List.all_eq_true.mpr fun p hp => decide_eq_true (by rw [← hv, valsT_mem h.ok.nd hp])
    have l1 := nd_len _ _ h.ok.nd (kin h.ok h.ne fun p hp => by rw [← hv, valsT_mem h.ok.nd hp])
    have l2 := nd_len _ _ h'.ok.nd (kin h'.ok h'.ne fun p hp => by rw [hv, valsT_mem h'.ok.nd hp])
    rw [List.length_map, List.length_map] at l1 l2
    rw [a1, show (T.length == T'.length) = true from beq_iff_eq.mpr (by omega)]
    rfl
  · rw [decide_eq_false c]
    cases a : (T.all fun p => decide (valsT T' p.1 = p.2)) with
    | false => rw [Bool.and_false]
    | true =>
      cases l : (T.length == T'.length) with
      | false => rfl
      | true =>
        exfalso
        have l := beq_iff_eq.mp l
        have hv : ∀ p ∈ T, valsT T' p.1 = p.2 := fun p hp => of_decide_eq_true (List.all_eq_true.mp a p hp)
        have ki := kin h.ok h.ne hv
        refine c (srtE_congr h.ok h'.ok fun w => ?_)
        by_cases hw : w ∈ T.map (·.1)
        · obtain ⟨p, hp, rfl⟩ := List.mem_map.mp hw
          rw [valsT_mem h.ok.nd hp, hv p hp]
        · rw [valsT_not hw]
          by_cases hw' : w ∈ T'.map (·.1)
          · have := nd_len (w :: T.map (·.1)) (T'.map (·.1)) (List.nodup_cons.mpr ⟨hw, h.ok.nd⟩) fun x hx => by
              rcases List.mem_cons.mp hx with rfl | hx
              · exact hw'
              · exact ki x hx
            rw [List.length_cons, List.length_map, List.length_map] at this
            omega
          · rw [valsT_not hw']
theorem m_eq_no {S : Tb} {y : D} (h : dIsiC ctab μ [y, .cls "Entry"] = some (.bl false)) : m_Entry___eq [eD t S, y] μ = .ok (.bl false) μ := by
  obtain ⟨E, hE⟩ : ∃ E : En, E = [some (eD t S), some y] := ⟨_, rfl⟩
  have is : mCb (dIsiC ctab) (mCons (mVar 1) (mCons (mC (D.cls "Entry")) mNil)) E μ = .ok (.bl false) μ := by
    have v1 : mVar 1 E μ = .ok y μ := by rw [hE]; rfl
    unfold mCb
    rw [cons_ok v1 (cons_ok rfl nil_ok)]
    show Rs.of (dIsiC ctab μ [y, .cls "Entry"]) μ = _
    rw [h]
    rfl
  refine fnK_of (b := b_Entry___eq) (E := E) rfl (by rw [hE]; rfl) ?_
  unfold b_Entry___eq sRet
  rw [andV_f is]
theorem mEqI_no {neg : Bool} {env : En} {a b : Mo D} {S : Tb} {y : D} (h1 : a env μ = .ok (eD t S) μ) (h2 : b env μ = .ok y μ) (hy : bltD y = true) (h : dIsiC ctab μ [y, .cls "Entry"] = some (.bl false)) : mEqI ctab neg eqTab a b env μ = .ok (.bl neg) μ := by
  unfold mEqI
  rw [h1]
  show (b env μ).bind _ = _
  rw [h2]
  show (if bltD y = true then (match eqTab.lookup "Entry" with
    | some f => if ctab.names.contains "Entry" = true then (f [eD t S, y] μ).bind fun r μ3 => match r with
      | .bl z => Rs.ok (D.bl (if neg = true then !z else z)) μ3
      | _ => .no else .no
    | none => .no) else _) = _
  rw [if_pos hy, eq_tab]
  show (if ctab.names.contains "Entry" = true then (m_Entry___eq [eD t S, y] μ).bind fun r μ3 => match r with
      | .bl z => Rs.ok (D.bl (if neg = true then !z else z)) μ3
      | _ => .no else .no) = _
  rw [if_pos (by decide +kernel), m_eq_no h]
  cases neg <;> rfl
theorem mEqI_nm {neg : Bool} {env : En} {a b : Mo D} {S : Tb} {LV OR : D} {tx : Codes} (h1 : a env μ = .ok (eD t S) μ) (h2 : b env μ = .ok (nameD tx LV OR) μ) : mEqI ctab neg eqTab a b env μ = .ok (.bl neg) μ := by
  have h : dIsiC ctab μ [nameD tx LV OR, .cls "Entry"] = some (.bl false) := by kernel_rfl
  unfold mEqI
  rw [h1]
  show (b env μ).bind _ = _
  rw [h2]
  show (if false = true then (match eqTab.lookup "Entry" with
    | some f => if ctab.names.contains "Entry" = true then (f [eD t S, nameD tx LV OR] μ).bind fun r μ3 => match r with
      | .bl z => Rs.ok (D.bl (if neg = true then !z else z)) μ3
      | _ => .no else .no
    | none => .no) else (match eqTab.lookup "Entry", clsOf μ (nameD tx LV OR) with
    | some f, some (c', _, _) => if ctab.names.contains "Entry" = true ∧ ctab.names.contains c' = true ∧ ("Entry" == c' || !isSub ctab c' "Entry") = true then (f [eD t S, nameD tx LV OR] μ).bind fun r μ3 => match r with
      | .bl z => Rs.ok (D.bl (if neg = true then !z else z)) μ3
      | _ => .no else .no
    | _, _ => .no)) = _
  rw [if_neg (by decide), eq_tab]
  show (if ctab.names.contains "Entry" = true ∧ ctab.names.contains "Name" = true ∧ ("Entry" == "Name" || !isSub ctab "Name" "Entry") = true then (m_Entry___eq [eD t S, nameD tx LV OR] μ).bind fun r μ3 => match r with
      | .bl z => Rs.ok (D.bl (if neg = true then !z else z)) μ3
      | _ => .no else .no) = _
  rw [if_pos ⟨by decide +kernel, by decide +kernel, by decide +kernel⟩, m_eq_no h]
  cases neg <;> rfl
end
end
end My
namespace My
open PySem PySem.Spec PyProof.Rows L2
section
variable {P : Program} [hP : OkP fileS P] {w : World} {K : PySem.W.Frag} {mg : Str → Option Value} {base : Heap}
section
variable {μ N : Store} {j n k : Nat} {cs : List Int} {t : Codes} {S T : Tb} {ws : List Codes} {env : En} {M : D}
theorem of_gen (hc : cs.length ≤ 63) {s : D} {xs : List D} (hs : Ds μ j (n + 1)) (h0 : xs ≠ []) (ln : ∀ N : Store, N.length = μ.length → (∀ i, j ≠ i → N[i]? = μ[i]?) → dLen N [s] = some (.int (xs.length : Int)) ∧ ∀ i : Int, dIxD N s (.int i) = atI xs i) : ∃ (i : Nat) (d : D) (μ' : Store), m_l_of [dmD cs j, s] μ = .ok d μ' ∧ xs[i]? = some d ∧ Dz μ j n μ' := by
  obtain ⟨r, μ1, e, hr, w⟩ := p_draw (cs := cs) hc hs (List.length_pos_iff.mpr h0)
  obtain ⟨d, hd⟩ : ∃ d, xs[r]? = some d := ⟨_, List.getElem?_eq_getElem hr⟩
  refine ⟨r, d, μ1, ?_, hd, w⟩
  obtain ⟨M, hM⟩ : ∃ M, M = dmD cs j := ⟨_, rfl⟩
  rw [← hM] at e ⊢
  obtain ⟨l0, _⟩ := ln μ rfl fun _ _ => rfl
  obtain ⟨_, l1⟩ := ln μ1 w.len fun i hi => w.get hi
  have ix : dIxD μ1 s (.int (r : Int)) = some d := (l1 _).trans (atI_nat hd)
  refine fnK_of (b := b_l_of) (E := [some M, some s]) rfl rfl ?_
  unfold b_l_of
  simp only [sRet, mOp, mCb, mCall, mCons, mVar, mNil, Rs.bind, Rs.of, List.getElem?_cons_zero, List.getElem?_cons_succ, l0, e, ix]
theorem len_ref {k : Nat} {ds : List D} (h : cellOf μ k = some ds) : dLen μ [.ref k] = some (.int (ds.length : Int)) := by
  unfold dLen
  dsimp only
  first
    | rw [h]
    | (show (match cellOf μ k with | some xs => some (D.int (xs.length : Int)) | none => none) = _; rw [h])
theorem p_ofC (hc : cs.length ≤ 63) {k : Nat} {xs : List D} (hk : cellOf μ k = some xs) (hjk : j ≠ k) (hs : Ds μ j (n + 1)) (h0 : xs ≠ []) : ∃ (i : Nat) (d : D) (μ' : Store), m_l_of [dmD cs j, .ref k] μ = .ok d μ' ∧ xs[i]? = some d ∧ Dz μ j n μ' :=
  of_gen hc hs h0 fun N _ hN => by
    have c : cellOf N k = some xs := by
      unfold cellOf at hk ⊢
      rw [hN k hjk]
      exact hk
    exact ⟨len_ref c, fun i => ix_ref c⟩
theorem pure_rwD (h : ROk k t T) : pureD (rwD (t, T)) = true := by
  have h1 := pure_eD (S := srtE T) h.nt
  have h2 := pure_dE (T := T)
  show (pureD (eD t (srtE T)) && (true && (pureD (dE T) && true))) = true
  rw [h1, h2]
  rfl
theorem step_one (hc : cs.length ≤ 63) {ps : List (Codes × Tb)} {E : Option D → En} (hN : N.length = 1) (hs : Ds N 0 (n + 17)) (hp : ∀ p ∈ ps, ROk k p.1 p.2) (h0 : ps ≠ []) (hl : ps.length ≤ 1000) (hk : k ≤ 60) (hw : ∀ w ∈ ws, isW w = true) (w0 : ws ≠ []) (wl : ws.length ≤ 100)
    (v1 : ∀ x N, mVar 1 (E x) N = .ok (dmD cs 0) N) (v3 : ∀ x N, mVar 3 (E x) N = .ok (.lst (ws.map D.str)) N) (v7 : ∀ x N, mVar 7 (E x) N = .ok (.ref 1) N) (v9 : ∀ x N, mVar 9 (E (some x)) N = .ok x N) (st : ∀ x y, (E x).set 9 (some y) = E (some y)) (x9 : Option D) :
    ∃ (p p' : Codes × Tb) (N' : Store), lb_law_2 (E x9) (N ++ [.lst (ps.map rwD)]) = .nx (E (some (rwD p))) (N' ++ [.lst ((ps ++ [p']).map rwD)]) ∧ p ∈ ps ∧ ROk (k + 2) p'.1 p'.2 ∧ Dz N 0 n N' := by
  obtain ⟨i, d, N1a, e1, hi, w1a⟩ := p_ofC (μ := N ++ [.lst (ps.map rwD)]) (j := 0) (k := 1) (n := n + 16) (cs := cs) (xs := ps.map rwD) hc (cellL hN) (by decide) hs.app (fun z => h0 (List.map_eq_nil_iff.mp z))
  obtain ⟨N1, rfl, w1⟩ := w1a.app hs.lt
  obtain ⟨p, hpm, rfl⟩ := List.mem_map.mp (List.mem_of_getElem? hi)
  have l1 : N1.length = 1 := w1.len.trans hN
  have pk := hp p hpm
  obtain ⟨p', N2a, e2, ok', w2a⟩ := p_changed (μ := N1 ++ [.lst (ps.map rwD)]) (j := 0) (n := n) (cs := cs) hc (by rw [List.length_append, l1]; rfl) pk hk hw w0 wl w1.ds.app
  obtain ⟨N2, rfl, w2⟩ := w2a.app w1.ds.lt
  have l2 : N2.length = 1 := w2.len.trans l1
  refine ⟨p, p', N2, ?_, hpm, ok', w1.trans w2⟩
  have s0 : ((sAsg (mCall m_l_of (mCons (mVar 1) (mCons (mVar 7) mNil))) (tgName 9))) (E x9) (N ++ [.lst (ps.map rwD)]) = .nx (E (some (rwD p))) (N1 ++ [.lst (ps.map rwD)]) :=
    (asg_s (i := 9) ((call_s (cons_ok (v1 _ _) (cons_ok (v7 _ _) nil_ok))).trans e1)).trans (by rw [st])
  have ix : ∀ (q : Store) (i : Int) (y : D), atI [eD p.1 (srtE p.2), .str p.1, dE p.2] i = some y → mOp dIxD (mVar 9) (mC (D.int i)) (E (some (rwD p))) q = .ok y q := fun q i y h => op_two (x := rwD p) (y := .int i) (v9 _ _) rfl h
  have s1 : ((sDrop (mApp (mVar 7) (mCall m_l_changed (mCons (mVar 1) (mCons (mOp dIxD (mVar 9) (mC (D.int 0))) (mCons (mOp dIxD (mVar 9) (mC (D.int 1))) (mCons (mOp dIxD (mVar 9) (mC (D.int 2))) (mCons (mVar 3) mNil))))))))) (E (some (rwD p))) (N1 ++ [.lst (ps.map rwD)]) = .nx (E (some (rwD p))) (N2 ++ [.lst ((ps ++ [p']).map rwD)]) := by
    rw [List.map_append]
    refine app_cell l1 l2 (v7 _ _) ((call_s (cons_ok (v1 _ _) (cons_ok (ix _ _ _ rfl) (cons_ok (ix _ _ _ rfl) (cons_ok (ix _ _ _ rfl) (cons_ok (v3 _ _) nil_ok)))))).trans e2) (pure_rwD ok') (by rw [List.length_map]; omega)
  have s2 : ((sIf (mNot (mTest (mCall m_l_refused (mCons (mOp dIxD (mVar 9) (mC (D.int 0))) mNil)))) (sRet (mC (D.bl false))) sNext)) (E (some (rwD p))) (N2 ++ [.lst ((ps ++ [p']).map rwD)]) = .nx (E (some (rwD p))) (N2 ++ [.lst ((ps ++ [p']).map rwD)]) := by
    refine sif_n (not_of (c := true) (test_of ((call_s (cons_ok (ix _ _ _ rfl) nil_ok)).trans (p_refused ?_))))
    rw [List.length_append, l2]
    rfl
  unfold lb_law_2
  rw [seq_nx s0, seq_nx s1]
  exact s2
theorem cmp_one {k' : Nat} {t' : Codes} {T' : Tb} {E : Option D → En} (hl : μ.length = 2) (h : ROk k t T) (h' : ROk k' t' T')
    (v10 : ∀ x, mVar 10 (E x) μ = .ok (eD t (srtE T)) μ) (v11 : ∀ x, mVar 11 (E x) μ = .ok (.str t) μ) (v12 : ∀ x, mVar 12 (E x) μ = .ok (dE T) μ)
    (v13 : ∀ x, mVar 13 (E x) μ = .ok (eD t' (srtE T')) μ) (v14 : ∀ x, mVar 14 (E x) μ = .ok (.str t') μ) (v15 : ∀ x, mVar 15 (E x) μ = .ok (dE T') μ) (v16 : ∀ x, mVar 16 (E (some x)) μ = .ok x μ) (st : ∀ x y, (E x).set 16 (some y) = E (some y)) (x16 : Option D) :
    ∃ b : Bool, lb_law_3 (E x16) μ = .nx (E (some (.bl b))) μ := by
  obtain ⟨b, hb⟩ : ∃ b : Bool, b = decide (t = t' ∧ srtE T = srtE T') := ⟨_, rfl⟩
  refine ⟨b, ?_⟩
  have s0 : ((sAsg (mAndV (mEqA ctab false eqTab (mVar 11) (mVar 14)) (mOp dEqK (mVar 12) (mVar 15))) (tgName 16))) (E x16) μ = .nx (E (some (.bl b))) μ := by
    refine (asg_s (i := 16) (x := .bl b) ?_).trans (by rw [st])
    have q1 : mEqA ctab false eqTab (mVar 11) (mVar 14) (E x16) μ = .ok (.bl (decide (t = t'))) μ := mEq_p (neg := false) (v11 _) (v14 _) rfl rfl
    have q2 : mOp dEqK (mVar 12) (mVar 15) (E x16) μ = .ok (.bl (decide (srtE T = srtE T'))) μ := op_two (v12 _) (v15 _) (eq_dK h h')
    have := andV_of q1 fun _ => q2
    rw [this, hb]
    by_cases c1 : t = t' <;> by_cases c2 : srtE T = srtE T' <;> simp [c1, c2]
  have nb : ∀ (neg : Bool) (m : Mo D) (c : Bool), m (E (some (.bl b))) μ = .ok (.bl c) μ → mTest (mEqA ctab neg eqTab m (mVar 16)) (E (some (.bl b))) μ = .ok (if neg = true then !(c == b) else (c == b)) μ := fun neg m c hm => by
    refine test_of (mEq_p (neg := neg) (x := .bl c) (y := .bl b) hm (v16 _) rfl ?_)
    cases neg <;> rfl
  have hS := srtE_ok h.ok
  have hS' := srtE_ok h'.ok
  have e1 : mEqA ctab false eqTab (mVar 10) (mVar 13) (E (some (.bl b))) μ = .ok (.bl b) μ := by
    rw [mEq_e (neg := false) (v10 _) (v13 _) h.nt h'.nt hS hS', hb]
    rfl
  have e2 : mEqA ctab true eqTab (mVar 10) (mVar 13) (E (some (.bl b))) μ = .ok (.bl (!b)) μ := by
    rw [mEq_e (neg := true) (v10 _) (v13 _) h.nt h'.nt hS hS', hb]
    rfl
  have mk : mMethCP "Entry" m_Entry_of (mC (D.cls "Entry")) (mCons (mVar 11) (mCons (mVar 12) mNil)) (E (some (.bl b))) μ = .ok (eD t (srtE T)) μ :=
    (methCP_of (cons_ok (v11 _) (cons_ok (v12 _) nil_ok))).trans (e_of h.nt (nm_2 hl h.nt) h.ok)
  have e3 : mEqA ctab false eqTab (mVar 13) (mMethCP "Entry" m_Entry_of (mC (D.cls "Entry")) (mCons (mVar 11) (mCons (mVar 12) mNil))) (E (some (.bl b))) μ = .ok (.bl b) μ := by
    rw [mEq_e (neg := false) (v13 _) mk h'.nt h.nt hS' hS, hb]
    have : decide (t' = t ∧ srtE T' = srtE T) = decide (t = t' ∧ srtE T = srtE T') := by
      by_cases c : t = t' ∧ srtE T = srtE T'
      · rw [decide_eq_true c, decide_eq_true ⟨c.1.symm, c.2.symm⟩]
      · rw [decide_eq_false c, decide_eq_false fun z => c ⟨z.1.symm, z.2.symm⟩]
    rw [this]
    rfl
  have t1 := nb true _ _ e1
  have t2 := nb false _ _ e2
  have t3 := nb true _ _ e3
  have s1 : ((sIf (mOr (mTest (mEqA ctab true eqTab (mEqA ctab false eqTab (mVar 10) (mVar 13)) (mVar 16))) (mOr (mTest (mEqA ctab false eqTab (mEqA ctab true eqTab (mVar 10) (mVar 13)) (mVar 16))) (mTest (mEqA ctab true eqTab (mEqA ctab false eqTab (mVar 13) (mMethCP "Entry" m_Entry_of (mC (D.cls "Entry")) (mCons (mVar 11) (mCons (mVar 12) mNil)))) (mVar 16))))) (sRet (mC (D.bl false))) sNext)) (E (some (.bl b))) μ = .nx (E (some (.bl b))) μ := by
    refine sif_n ((or_f (t1.trans ?_)).trans ((or_f (t2.trans ?_)).trans (t3.trans ?_)))
    · cases b <;> rfl
    · cases b <;> rfl
    · cases b <;> rfl
  unfold lb_law_3
  rw [seq_nx s0]
  exact s1
/-- beside what is none -/
theorem odd_one {E : En} {y : D} (h10 : mVar 10 E μ = .ok (eD t S) μ) (h17 : mVar 17 E μ = .ok y μ) (hy : (bltD y = true ∧ dIsiC ctab μ [y, .cls "Entry"] = some (.bl false)) ∨ ∃ tx LV OR, y = nameD tx LV OR) : lb_law_4 E μ = .nx E μ := by
  have e : ∀ neg, mEqI ctab neg eqTab (mVar 10) (mVar 17) E μ = .ok (.bl neg) μ := fun neg => by
    rcases hy with ⟨h1, h2⟩ | ⟨tx, LV, OR, rfl⟩
    · exact mEqI_no h10 h17 h1 h2
    · exact mEqI_nm h10 h17
  unfold lb_law_4
  exact sif_n ((or_f (test_of (e false))).trans (not_of (c := true) (test_of (e true))))
/-- a loop that leaves the store -/
theorem forGo_st {α : Type} {gd : Gd} {tg : Tg} {body : MS} (f : α → D) (I : En → Prop) (hg : gdOk gd μ = true) : ∀ as : List α, (∀ a ∈ as, ∀ env, I env → ∃ env1 env2, tg (f a) env = some env1 ∧ body env1 μ = .nx env2 μ ∧ I env2) → ∀ env, I env → ∃ env2, forGo gd tg body (as.map f) env μ = .nx env2 μ ∧ I env2
  | [], _, env, hI => ⟨env, by
    rw [List.map_nil]
    unfold forGo
    rw [if_pos hg], hI⟩
  | a :: as, h, env, hI => by
    obtain ⟨env1, env2, h1, h2, h3⟩ := h a (.head _) env hI
    obtain ⟨env3, h4, h5⟩ := forGo_st f I hg as (fun b hb => h b (.tail _ hb)) env2 h3
    refine ⟨env3, ?_, h5⟩
    rw [List.map_cons, forGo, if_pos hg, h1]
    dsimp only
    rw [h2]
    exact h4
end
end
end My
namespace My
open PySem PySem.Spec PyProof.Rows L2
section
variable {P : Program} [hP : OkP fileS P] {w : World} {K : PySem.W.Frag} {mg : Str → Option Value} {base : Heap}
section
variable {μ N : Store} {n k : Nat} {cs : List Int} {ws : List Codes} {w0 M : D} {x2 x3 x4 x5 x7 x8 x9 x10 x11 x12 x13 x14 x15 x16 x17 : Option D}
abbrev lawE (w0 M : D) (x2 x3 x4 x5 x7 x8 x9 x10 x11 x12 x13 x14 x15 x16 x17 : Option D) : En := [some w0, some M, x2, x3, x4, x5, none, x7, x8, x9, x10, x11, x12, x13, x14, x15, x16, x17]
theorem gd_rows {k : Nat} {xs : List D} (hc : cellOf μ k = some xs) : gdOk (some (k, xs)) μ = true := by
  unfold cellOf at hc
  show (match μ[k]? with
    | some (.lst es) => D.beqL es xs
    | _ => false) = true
  split at hc
  · rename_i ds e
    cases hc
    first | exact D.beqL_refl _ | (simp only [e]; exact D.beqL_refl _)
  · cases hc
theorem it_ref {k : Nat} {xs : List D} {o : Mo D} {env : En} (h : o env μ = .ok (.ref k) μ) (hc : cellOf μ k = some xs) : mIter o env μ = .ok (xs, some (k, xs)) μ := by
  unfold mIter
  rw [h]
  show Rs.of (match cellOf μ k with
    | some xs => some (xs, some (k, xs))
    | none => none) μ = _
  rw [hc]
  rfl
theorem tup_of {as : Mo (List D)} {env : En} {ds : List D} (h : as env μ = .ok ds μ) (hl : ds.length ≤ 1000) : mTup as env μ = .ok (.tup ds) μ := by
  unfold mTup
  rw [h]
  first
    | rfl
    | exact if_pos (by omega)
theorem f1_e {t : Codes} {T : Tb} {k : Nat} (h : ROk k t T) : F2 1 (some (eD t (srtE T))) := f2_pure (pure_eD h.nt)
theorem f1_d {T : Tb} : F2 1 (some (dE T)) := f2_pure pure_dE
theorem f1_s {t : Codes} : F2 1 (some (.str t)) := f2_pure rfl
theorem row_one {ps : List (Codes × Tb)} {p : Codes × Tb} (hl : μ.length = 2) (hc : cellOf μ 1 = some (ps.map rwD)) (hps : ∀ p ∈ ps, ROk k p.1 p.2) (hp : p ∈ ps) (f13 : F2 1 x13) (f14 : F2 1 x14) (f15 : F2 1 x15) (f16 : F2 1 x16) (f17 : F2 1 x17) :
    ∃ z13 z14 z15 z16 z17, lb_law_5 (lawE w0 M x2 x3 x4 x5 (some (.ref 1)) x8 x9 (some (eD p.1 (srtE p.2))) (some (.str p.1)) (some (dE p.2)) x13 x14 x15 x16 x17) μ = .nx (lawE w0 M x2 x3 x4 x5 (some (.ref 1)) x8 x9 (some (eD p.1 (srtE p.2))) (some (.str p.1)) (some (dE p.2)) z13 z14 z15 z16 z17) μ ∧
      F2 1 z13 ∧ F2 1 z14 ∧ F2 1 z15 ∧ F2 1 z16 ∧ F2 1 z17 := by
  have hr := hps p hp
  obtain ⟨t, T⟩ := p
  have hr : ROk k t T := hr
  have hp : (t, T) ∈ ps := hp
  show ∃ z13 z14 z15 z16 z17, lb_law_5 (lawE w0 M x2 x3 x4 x5 (some (.ref 1)) x8 x9 (some (eD t (srtE T))) (some (.str t)) (some (dE T)) x13 x14 x15 x16 x17) μ = .nx (lawE w0 M x2 x3 x4 x5 (some (.ref 1)) x8 x9 (some (eD t (srtE T))) (some (.str t)) (some (dE T)) z13 z14 z15 z16 z17) μ ∧
      F2 1 z13 ∧ F2 1 z14 ∧ F2 1 z15 ∧ F2 1 z16 ∧ F2 1 z17
  obtain ⟨EN, hEN⟩ : ∃ EN, EN = eD t (srtE T) := ⟨_, rfl⟩
  obtain ⟨DT, hDT⟩ : ∃ DT, DT = dE T := ⟨_, rfl⟩
  obtain ⟨E, hE⟩ : ∃ E : Option D → Option D → Option D → Option D → Option D → En, E = fun x13 x14 x15 x16 x17 => lawE w0 M x2 x3 x4 x5 (some (.ref 1)) x8 x9 (some EN) (some (.str t)) (some DT) x13 x14 x15 x16 x17 := ⟨_, rfl⟩
  have g7 : ∀ {a b c d e}, mVar 7 (E a b c d e) μ = .ok (.ref 1) μ := by intros; rw [hE]; rfl
  have g10 : ∀ {a b c d e}, mVar 10 (E a b c d e) μ = .ok (eD t (srtE T)) μ := by intros; rw [hE, ← hEN]; rfl
  have g11 : ∀ {a b c d e}, mVar 11 (E a b c d e) μ = .ok (.str t) μ := by intros; rw [hE]; rfl
  have g12 : ∀ {a b c d e}, mVar 12 (E a b c d e) μ = .ok (dE T) μ := by intros; rw [hE, ← hDT]; rfl
  have g13 : ∀ {a b c d e}, mVar 13 (E (some a) b c d e) μ = .ok a μ := by intros; rw [hE]; rfl
  have g14 : ∀ {a b c d e}, mVar 14 (E a (some b) c d e) μ = .ok b μ := by intros; rw [hE]; rfl
  have g15 : ∀ {a b c d e}, mVar 15 (E a b (some c) d e) μ = .ok c μ := by intros; rw [hE]; rfl
  have g16 : ∀ {a b c d e}, mVar 16 (E a b c (some d) e) μ = .ok d μ := by intros; rw [hE]; rfl
  have g17 : ∀ {a b c d e}, mVar 17 (E a b c d (some e)) μ = .ok e μ := by intros; rw [hE]; rfl
  have st16 : ∀ {a b c d e y}, (E a b c d e).set 16 (some y) = E a b c (some y) e := by intros; rw [hE]; rfl
  have eE : ∀ {a b c d e}, lawE w0 M x2 x3 x4 x5 (some (.ref 1)) x8 x9 (some (eD t (srtE T))) (some (.str t)) (some (dE T)) a b c d e = E a b c d e := by intros; rw [hE, hEN, hDT]
  have im := p_is_model hl hr
  have s0 : ((sIf (mOr (mNot (mTest (mCall m_l_is_model (mCons (mVar 10) (mCons (mVar 11) (mCons (mVar 12) mNil)))))) (mNot (mTest (mCall m_l_is_model (mCons (mMethCP "Entry" m_Entry_of (mC (D.cls "Entry")) (mCons (mVar 11) (mCons (mVar 12) mNil))) (mCons (mVar 11) (mCons (mVar 12) mNil))))))) (sRet (mC (D.bl false))) sNext)) (E x13 x14 x15 x16 x17) μ = .nx (E x13 x14 x15 x16 x17) μ := by
    have t1 : mNot (mTest (mCall m_l_is_model (mCons (mVar 10) (mCons (mVar 11) (mCons (mVar 12) mNil))))) (E x13 x14 x15 x16 x17) μ = .ok (!true) μ :=
      not_of (test_of ((call_s (cons_ok g10 (cons_ok g11 (cons_ok g12 nil_ok)))).trans im))
    have mk : mMethCP "Entry" m_Entry_of (mC (D.cls "Entry")) (mCons (mVar 11) (mCons (mVar 12) mNil)) (E x13 x14 x15 x16 x17) μ = .ok (eD t (srtE T)) μ :=
      (methCP_of (cons_ok g11 (cons_ok g12 nil_ok))).trans (e_of hr.nt (nm_2 hl hr.nt) hr.ok)
    have t2 : mNot (mTest (mCall m_l_is_model (mCons (mMethCP "Entry" m_Entry_of (mC (D.cls "Entry")) (mCons (mVar 11) (mCons (mVar 12) mNil))) (mCons (mVar 11) (mCons (mVar 12) mNil))))) (E x13 x14 x15 x16 x17) μ = .ok (!true) μ :=
      not_of (test_of ((call_s (cons_ok mk (cons_ok g11 (cons_ok g12 nil_ok)))).trans im))
    exact sif_n ((or_f t1).trans t2)
  obtain ⟨e1, h1, y13, y14, y15, y16, rfl, k13, k14, k15, k16⟩ := forGo_st (μ := μ) (gd := some (1, ps.map rwD)) (tg := tgL 3 (tgCons (tgName 13) (tgCons (tgName 14) (tgCons (tgName 15) tgNil)))) (body := lb_law_3) rwD (fun env => ∃ y13 y14 y15 y16, env = E y13 y14 y15 y16 x17 ∧ F2 1 y13 ∧ F2 1 y14 ∧ F2 1 y15 ∧ F2 1 y16) (gd_rows hc) ps
    (fun q hq env ⟨y13, y14, y15, y16, he, _, _, _, k16⟩ => by
      subst he
      have hq2 := hps q hq
      obtain ⟨b, hb⟩ := cmp_one (μ := μ) (E := fun x16 => E (some (eD q.1 (srtE q.2))) (some (.str q.1)) (some (dE q.2)) x16 x17) hl hr hq2 (fun _ => g10) (fun _ => g11) (fun _ => g12) (fun _ => g13) (fun _ => g14) (fun _ => g15) (fun _ => g16) (fun _ _ => st16) y16
      exact ⟨E (some (eD q.1 (srtE q.2))) (some (.str q.1)) (some (dE q.2)) y16 x17, _, by rw [hE]; rfl, hb, _, _, _, _, rfl, f1_e hq2, f1_s, f1_d, f2_pure rfl⟩)
    (E x13 x14 x15 x16 x17) ⟨_, _, _, _, rfl, f13, f14, f15, f16⟩
  have s1 : ((sFor (mIter (mVar 7)) (tgL 3 (tgCons (tgName 13) (tgCons (tgName 14) (tgCons (tgName 15) tgNil)))) lb_law_3)) (E x13 x14 x15 x16 x17) μ = .nx (E y13 y14 y15 y16 x17) μ := by
    unfold sFor
    rw [it_ref g7 hc]
    exact h1
  obtain ⟨NM, hNM⟩ : ∃ NM, NM = nameD t (lvN t) (orN t) := ⟨_, rfl⟩
  obtain ⟨e2, h2, y17, rfl, k17⟩ := forGo_st (μ := μ) (gd := none) (tg := tgName 17) (body := lb_law_4) id (fun env => ∃ y17, env = E y13 y14 y15 y16 y17 ∧ F2 1 y17) gdOk_none [D.non, .str t, dE T, NM, .tup [.str t, dE T], .int 5]
    (fun y hy env ⟨y17, he, _⟩ => by
      subst he
      have ok : ((bltD y = true ∧ dIsiC ctab μ [y, .cls "Entry"] = some (.bl false)) ∨ ∃ tx LV OR, y = nameD tx LV OR) ∧ F2 1 (some y) := by
        simp only [List.mem_cons, List.not_mem_nil, or_false] at hy
        rcases hy with rfl | rfl | rfl | rfl | rfl | rfl
        · exact ⟨.inl ⟨rfl, rfl⟩, f2_pure rfl⟩
        · exact ⟨.inl ⟨rfl, rfl⟩, f2_pure rfl⟩
        · exact ⟨.inl ⟨rfl, rfl⟩, f1_d⟩
        · exact ⟨.inr ⟨_, _, _, hNM⟩, by rw [hNM]; exact f2_pure (nm_pure t hr.nt)⟩
        · refine ⟨.inl ⟨rfl, rfl⟩, f2_pure ?_⟩
          show (true && (pureD (dE T) && true)) = true
          rw [pure_dE]
          rfl
        · exact ⟨.inl ⟨rfl, rfl⟩, f2_pure rfl⟩
      exact ⟨E y13 y14 y15 y16 (some y), E y13 y14 y15 y16 (some y), by rw [hE]; rfl, odd_one g10 g17 ok.1, _, rfl, ok.2⟩)
    (E y13 y14 y15 y16 x17) ⟨_, rfl, f17⟩
  rw [List.map_id] at h2
  have s2 : ((sFor (mIter (mTup (mCons (mC D.non) (mCons (mVar 11) (mCons (mVar 12) (mCons (mMakeP false "Name" m_Name___init 1 0 [0, 1] [D.str []] (mC (D.cls "Name")) (mCons (mVar 11) mNil) mNil) (mCons (mTup (mCons (mVar 11) (mCons (mVar 12) mNil))) (mCons (mC (D.int 5)) mNil)))))))) (tgName 17) lb_law_4)) (E y13 y14 y15 y16 x17) μ = .nx (E y13 y14 y15 y16 y17) μ := by
    have tp : mTup (mCons (mVar 11) (mCons (mVar 12) mNil)) (E y13 y14 y15 y16 x17) μ = .ok (.tup [.str t, dE T]) μ := by
      unfold mTup
      rw [cons_ok g11 (cons_ok g12 nil_ok)]
      rfl
    have nm := mk_name (o := mVar 11) (env := E y13 y14 y15 y16 x17) hl hr.nt g11
    rw [← hNM] at nm
    have tt : mTup (mCons (mC D.non) (mCons (mVar 11) (mCons (mVar 12) (mCons (mMakeP false "Name" m_Name___init 1 0 [0, 1] [D.str []] (mC (D.cls "Name")) (mCons (mVar 11) mNil) mNil) (mCons (mTup (mCons (mVar 11) (mCons (mVar 12) mNil))) (mCons (mC (D.int 5)) mNil)))))) (E y13 y14 y15 y16 x17) μ = .ok (.tup [D.non, .str t, dE T, NM, .tup [.str t, dE T], .int 5]) μ := by
      refine tup_of (cons_ok (a := mC D.non) (env := E y13 y14 y15 y16 x17) (μ := μ) (x := D.non) rfl (cons_ok g11 (cons_ok g12 (cons_ok nm (cons_ok tp (cons_ok (a := mC (D.int 5)) (x := D.int 5) rfl nil_ok)))))) (by simp)
    have it : mIter (mTup (mCons (mC D.non) (mCons (mVar 11) (mCons (mVar 12) (mCons (mMakeP false "Name" m_Name___init 1 0 [0, 1] [D.str []] (mC (D.cls "Name")) (mCons (mVar 11) mNil) mNil) (mCons (mTup (mCons (mVar 11) (mCons (mVar 12) mNil))) (mCons (mC (D.int 5)) mNil))))))) (E y13 y14 y15 y16 x17) μ = .ok ([D.non, .str t, dE T, NM, .tup [.str t, dE T], .int 5], none) μ := by
      unfold mIter
      rw [tt]
      rfl
    unfold sFor
    rw [it]
    exact h2
  refine ⟨y13, y14, y15, y16, y17, ?_, k13, k14, k15, k16, k17⟩
  rw [eE, eE]
  unfold lb_law_5
  rw [seq_nx s0, seq_nx s1]
  exact s2
theorem rows_go (hc : cs.length ≤ 63) {E : Option D → En} (v1 : ∀ x N, mVar 1 (E x) N = .ok (dmD cs 0) N) (v6 : ∀ x N, mVar 6 (E (some x)) N = .ok x N) (st : ∀ x y, (E x).set 6 (some y) = E (some y)) : ∀ (wl : List Codes) (μ : Store) (n : Nat), Ds μ 0 (n + 4 * wl.length) →
    ∃ (R : Tb) (μ' : Store), lcGo none (tgName 6) (mC true) le_law_1 (E none) (wl.map D.str) μ = .ok (R.map rowE) μ' ∧ R.map (·.1) = wl ∧ (∀ p ∈ R, (∀ v ∈ p.2, isV v = true) ∧ p.2.length ≤ 3) ∧ Dz μ 0 n μ'
  | [], μ, n, h => ⟨[], μ, rfl, rfl, fun _ h => (nomatch h), h.refl⟩
  | w :: wl, μ, n, h => by
    rw [List.length_cons] at h
    obtain ⟨vs, μ1, e1, hl, hv, w1⟩ := p_lvalues (cs := cs) (j := 0) (n := n + 4 * wl.length) hc (h.less (by omega))
    obtain ⟨R, μ2, e2, hR, hall, w2⟩ := rows_go hc v1 v6 st wl μ1 n w1.ds
    have el : le_law_1 (E (some (.str w))) μ = .ok (rowE (w, vs)) μ1 := by
      unfold le_law_1 mTup
      rw [cons_s (v6 _ _) (cons_s ((call_s (cons_ok (v1 _ _) nil_ok)).trans e1) rfl)]
      rfl
    refine ⟨(w, vs) :: R, μ2, ?_, by rw [List.map_cons, hR], fun p hp => ?_, w1.trans w2⟩
    · rw [List.map_cons, lcGo_yes (env1 := E (some (.str w))) (μ1 := μ) (x := rowE (w, vs)) (μ2 := μ1) (by
        show some ((E none).set 6 (some (.str w))) = _
        rw [st]) rfl el, e2]
      rfl
    · rcases List.mem_cons.mp hp with rfl | hp
      · exact ⟨hv, hl⟩
      · exact hall p hp
/-- the steps of a history -/
theorem steps_go (hc : cs.length ≤ 63) {E : Option D → Option D → En} (hw : ∀ w ∈ ws, isW w = true) (w0 : ws ≠ []) (wl : ws.length ≤ 100)
    (v1 : ∀ x y N, mVar 1 (E x y) N = .ok (dmD cs 0) N) (v3 : ∀ x y N, mVar 3 (E x y) N = .ok (.lst (ws.map D.str)) N) (v7 : ∀ x y N, mVar 7 (E x y) N = .ok (.ref 1) N) (v9 : ∀ x y N, mVar 9 (E x (some y)) N = .ok y N) (st8 : ∀ x y z, (E x y).set 8 (some z) = E (some z) y) (st9 : ∀ x y z, (E x y).set 9 (some z) = E x (some z)) :
    ∀ (ds : List D) (N : Store) (n k : Nat) (ps : List (Codes × Tb)) (x8 x9 : Option D), (∀ d ∈ ds, ∃ i : Nat, d = .int (i : Int)) → N.length = 1 → Ds N 0 (n + 17 * ds.length) → (∀ p ∈ ps, ROk k p.1 p.2) → ps ≠ [] → ps.length + ds.length ≤ 1000 → k + 2 * ds.length ≤ 60 → F2 1 x8 → F2 1 x9 →
      ∃ (N' : Store) (ps' : List (Codes × Tb)) (y8 y9 : Option D), forGo none (tgName 8) lb_law_2 ds (E x8 x9) (N ++ [.lst (ps.map rwD)]) = .nx (E y8 y9) (N' ++ [.lst (ps'.map rwD)]) ∧ (∀ p ∈ ps', ROk (k + 2 * ds.length) p.1 p.2) ∧ ps'.length ≤ ps.length + ds.length ∧ F2 1 y8 ∧ F2 1 y9 ∧ Dz N 0 n N'
  | [], N, n, k, ps, x8, x9, _, _, hs, hp, _, _, _, f8, f9 => ⟨N, ps, x8, x9, rfl, hp, Nat.le_refl _, f8, f9, hs.refl⟩
  | d :: ds, N, n, k, ps, x8, x9, hd, hN, hs, hp, h0, hl, hk, f8, f9 => by
    rw [List.length_cons] at hs hl hk
    obtain ⟨i, rfl⟩ := hd d (.head _)
    obtain ⟨p, p', N1, e1, hpm, ok', w1⟩ := step_one (n := n + 17 * ds.length) (k := k) (E := fun y => E (some (.int (i : Int))) y) hc hN (hs.less (by omega)) hp h0 (by omega) (by omega) hw w0 wl (fun _ _ => v1 _ _ _) (fun _ _ => v3 _ _ _) (fun _ _ => v7 _ _ _) (fun _ _ => v9 _ _ _) (fun _ _ => st9 _ _ _) x9
    obtain ⟨N2, ps2, y8, y9, e2, ok2, l2, g8, g9, w2⟩ := steps_go hc hw w0 wl v1 v3 v7 v9 st8 st9 ds N1 n (k + 2) (ps ++ [p']) (some (.int (i : Int))) (some (rwD p)) (fun d h => hd d (.tail _ h)) (w1.len.trans hN) w1.ds (fun q hq => by
      rcases List.mem_append.mp hq with hq | hq
      · exact (hp q hq).less (by omega)
      · rw [List.mem_singleton.mp hq]; exact ok') (by simp) (by rw [List.length_append, List.length_singleton]; omega) (by omega) (f2_pure rfl) (f2_pure (pure_rwD (hp p hpm)))
    refine ⟨N2, ps2, y8, y9, ?_, fun q hq => (ok2 q hq).less (by rw [List.length_cons]; omega), ?_, g8, g9, w1.trans w2⟩
    · rw [forGo_nx (env1 := E (some (.int (i : Int))) x9) (by
        show some ((E x8 x9).set 8 (some (.int (i : Int)))) = _
        rw [st8]) e1]
      exact e2
    · rw [List.length_append, List.length_singleton] at l2
      rw [List.length_cons]
      omega
end
end
end My
namespace My
open PySem PySem.Spec PyProof.Rows L2
section
variable {P : Program} [hP : OkP fileS P] {w : World} {K : PySem.W.Frag} {mg : Str → Option Value} {base : Heap}
section
variable {μ : Store} {n : Nat} {cs : List Int} {w0 : D} {x2 x3 x4 x5 x7 x8 x9 x10 x11 x12 x13 x14 x15 x16 x17 : Option D}
theorem turn (hc : cs.length ≤ 63) (hl : μ.length = 1) (hs : Ds μ 0 (n + 300)) (f0 : F2 1 (some w0)) (f2 : F2 1 x2) (f8 : F2 1 x8) (f9 : F2 1 x9) (f10 : F2 1 x10) (f11 : F2 1 x11) (f12 : F2 1 x12) (f13 : F2 1 x13) (f14 : F2 1 x14) (f15 : F2 1 x15) (f16 : F2 1 x16) (f17 : F2 1 x17) :
    ∃ (y3 y4 y5 y7 y8 y9 y10 y11 y12 y13 y14 y15 y16 y17 : Option D) (μ' : Store), sBlk lb_law_6 (lawE w0 (dmD cs 0) x2 x3 x4 x5 x7 x8 x9 x10 x11 x12 x13 x14 x15 x16 x17) μ = .nx (lawE w0 (dmD cs 0) x2 y3 y4 y5 y7 y8 y9 y10 y11 y12 y13 y14 y15 y16 y17) μ' ∧
      (F2 1 y8 ∧ F2 1 y9 ∧ F2 1 y10 ∧ F2 1 y11 ∧ F2 1 y12 ∧ F2 1 y13 ∧ F2 1 y14 ∧ F2 1 y15 ∧ F2 1 y16 ∧ F2 1 y17) ∧ Dz μ 0 n μ' := by
  obtain ⟨ws, μ1, e1, hwl, _, hwz, w1⟩ := p_words (cs := cs) (j := 0) (n := n + 240) (many := 5) hc (by decide) hs
  have e1 : m_l_words [dmD cs 0, .int 5] μ = .ok (.lst (ws.map D.str)) μ1 := e1
  obtain ⟨t, μ2, e2, ht, w2⟩ := p_ltext (cs := cs) (j := 0) (n := n + 239) hc w1.ds
  obtain ⟨q, μ3, e3, hq, w3⟩ := p_draw (cs := cs) (b := 6) (n := n + 238) hc w2.ds (by decide)
  have e3 : m_l_draw [dmD cs 0, .int 6] μ2 = .ok (.int (q : Int)) μ3 := e3
  have hwW : ∀ w ∈ ws, isW w = true := fun w hw => (hwz w hw).wd.ok
  obtain ⟨M, hM⟩ : ∃ M, M = dmD cs 0 := ⟨_, rfl⟩
  have fM : F2 1 (some M) := by rw [hM]; exact f2_dm (by decide)
  obtain ⟨WS, hWS⟩ : ∃ WS, WS = D.lst (ws.map D.str) := ⟨_, rfl⟩
  have fW : F2 1 (some WS) := by rw [hWS]; exact f2_pure (pure_strs ws)
  obtain ⟨R, μ4, e4, hR, hall, w4⟩ := rows_go (cs := cs) (n := n + 200) hc (E := fun x6 => [some w0, some M, x2, some WS, some (.str t), x5, x6, x7, x8, x9, x10, x11, x12, x13, x14, x15, x16, x17]) (fun x N => by rw [← hM]; rfl) (fun _ _ => rfl) (fun _ _ => rfl) (ws.take q) μ3 (w3.ds.less (by rw [List.length_take]; omega))
  have l4 : μ4.length = 1 := (((w4.len.trans w3.len).trans w2.len).trans w1.len).trans hl
  have rl : R.length = (ws.take q).length := by rw [← hR, List.length_map]
  have rl5 : R.length ≤ 5 := by rw [rl, List.length_take]; omega
  have rok : RwOk R := fun p hp => ⟨hwW p.1 (List.mem_of_mem_take (by rw [← hR]; exact List.mem_map_of_mem hp)), (hall p hp).1, Nat.le_trans (hall p hp).2 (by decide)⟩
  obtain ⟨T, hT⟩ : ∃ T, T = neT (mergeT [] R) := ⟨_, rfl⟩
  have rt : ROk 5 t T := by
    have h := rok_put (k := 0) (t := t) (T := []) ⟨ht, nil_okT, fun _ h => (nomatch h), Nat.le_refl _⟩ rok (by simp only [List.length_nil]; omega)
    rw [← hT] at h
    exact h.less (by omega)
  obtain ⟨DT, hDT⟩ : ∃ DT, DT = dE T := ⟨_, rfl⟩
  have fD : F2 1 (some DT) := by rw [hDT]; exact f1_d
  obtain ⟨z, μ5, e5, hz, w5a⟩ := p_draw (μ := μ4 ++ [.lst ([(t, T)].map rwD)]) (cs := cs) (j := 0) (b := 7) (n := n + 199) hc (w4.ds.less (by omega)).app (by decide)
  obtain ⟨N5, rfl, w5⟩ := w5a.app w4.ds.lt
  have e5 : m_l_draw [dmD cs 0, .int 7] (μ4 ++ [.lst ([(t, T)].map rwD)]) = .ok (.int (z : Int)) (N5 ++ [.lst ([(t, T)].map rwD)]) := e5
  have l5 : N5.length = 1 := w5.len.trans l4
  obtain ⟨N6, ps, y8, y9, e6, hps, hpl, g8, g9, w6⟩ := steps_go (cs := cs) (ws := ws) hc (E := fun x8 x9 => lawE w0 M x2 (some WS) (some (.str t)) (some DT) (some (.ref 1)) x8 x9 x10 x11 x12 x13 x14 x15 x16 x17) hwW (fun y => by rw [y] at hwl; cases hwl) (by omega) (fun _ _ _ => by rw [← hM]; rfl) (fun _ _ _ => by rw [← hWS]; rfl) (fun _ _ _ => rfl) (fun _ _ _ => rfl) (fun _ _ _ => rfl) (fun _ _ _ => rfl)
    (rngL 0 (3 + z)) N5 n 5 [(t, T)] x8 x9 (fun d hd => by
      unfold rngL at hd
      obtain ⟨i, _, rfl⟩ := List.mem_map.mp hd
      exact ⟨i, by rw [Int.zero_add]⟩) l5 (w5.ds.less (by rw [rngN_len]; omega)) (fun p hp => by rw [List.mem_singleton.mp hp]; exact rt) (by simp) (by rw [rngN_len]; simp only [List.length_singleton]; omega) (by rw [rngN_len]; omega) f8 f9
  have l6 : N6.length = 1 := w6.len.trans l5
  have l6b : (N6 ++ [Cell.lst (ps.map rwD)]).length = 2 := by rw [List.length_append, l6]; rfl
  have hc6 : cellOf (N6 ++ [.lst (ps.map rwD)]) 1 = some (ps.map rwD) := cellL l6
  rw [← hM] at e1 e2 e3 e5 ⊢
  have s0 : ((sPar 3 4 (mCons (mCall m_l_words (mCons (mVar 1) (mCons (mC (D.int 5)) mNil))) (mCons (mCall m_l_text (mCons (mVar 1) mNil)) mNil)))) (lawE w0 M x2 x3 x4 x5 x7 x8 x9 x10 x11 x12 x13 x14 x15 x16 x17) μ = .nx (lawE w0 M x2 (some WS) (some (.str t)) x5 x7 x8 x9 x10 x11 x12 x13 x14 x15 x16 x17) μ2 := by
    unfold sPar
    rw [cons_s ((call_s (cons_ok (x := M) rfl (cons_ok rfl nil_ok))).trans e1) (cons_s ((call_s (cons_ok (x := M) rfl nil_ok)).trans e2) rfl), hWS]
    rfl
  have s1 : ((sAsg (mCall m_l_put (mCons (mFzD (mC ([], []))) (mCons (mFz (mLc (mIter (mSl dSlV (mVar 3) mNoP (mPart (mCall m_l_draw (mCons (mVar 1) (mCons (mC (D.int 6)) mNil)))))) (tgName 6) (mC true) le_law_1 [6])) mNil))) (tgName 5))) (lawE w0 M x2 (some WS) (some (.str t)) x5 x7 x8 x9 x10 x11 x12 x13 x14 x15 x16 x17) μ2 = .nx (lawE w0 M x2 (some WS) (some (.str t)) (some DT) x7 x8 x9 x10 x11 x12 x13 x14 x15 x16 x17) μ4 := by
    have cd : mCall m_l_draw (mCons (mVar 1) (mCons (mC (D.int 6)) mNil)) (lawE w0 M x2 (some WS) (some (.str t)) x5 x7 x8 x9 x10 x11 x12 x13 x14 x15 x16 x17) μ2 = .ok (.int (q : Int)) μ3 := (call_s (cons_ok (x := M) rfl (cons_ok rfl nil_ok))).trans e3
    have sl : mSl dSlV (mVar 3) mNoP (mPart (mCall m_l_draw (mCons (mVar 1) (mCons (mC (D.int 6)) mNil)))) (lawE w0 M x2 (some WS) (some (.str t)) x5 x7 x8 x9 x10 x11 x12 x13 x14 x15 x16 x17) μ2 = .ok (.lst ((ws.take q).map D.str)) μ3 := by
      have v3 : mVar 3 (lawE w0 M x2 (some WS) (some (.str t)) x5 x7 x8 x9 x10 x11 x12 x13 x14 x15 x16 x17) μ2 = .ok WS μ2 := rfl
      have e : dSlV μ3 WS none (some (q : Int)) = some (.lst ((ws.take q).map D.str)) := by
        rw [hWS]
        show some (D.lst (cutD (ws.map D.str) none (some (q : Int)))) = _
        rw [cut_take, List.map_take]
      simp only [mSl, mNoP, mPart, Rs.bind, Rs.of, v3, cd, e]
    have lc : mLc (mIter (mSl dSlV (mVar 3) mNoP (mPart (mCall m_l_draw (mCons (mVar 1) (mCons (mC (D.int 6)) mNil)))))) (tgName 6) (mC true) le_law_1 [6] (lawE w0 M x2 (some WS) (some (.str t)) x5 x7 x8 x9 x10 x11 x12 x13 x14 x15 x16 x17) μ2 = .ok (R.map rowE) μ4 := by
      have it : mIter (mSl dSlV (mVar 3) mNoP (mPart (mCall m_l_draw (mCons (mVar 1) (mCons (mC (D.int 6)) mNil))))) (lawE w0 M x2 (some WS) (some (.str t)) x5 x7 x8 x9 x10 x11 x12 x13 x14 x15 x16 x17) μ2 = .ok ((ws.take q).map D.str, none) μ3 := by
        unfold mIter
        rw [sl]
        rfl
      unfold mLc
      rw [it]
      show (if ((ws.take q).map D.str).length ≤ 50000 then _ else _) = _
      rw [if_pos (by rw [List.length_map, List.length_take]; omega)]
      exact e4
    have pt := p_put (μ := μ4) (T := []) nil_okT rok (by simp only [List.length_nil]; omega)
    rw [← hT, ← hDT] at pt
    have c := (call_s (f := m_l_put) (as := mCons (mFzD (mC ([], []))) (mCons (mFz (mLc (mIter (mSl dSlV (mVar 3) mNoP (mPart (mCall m_l_draw (mCons (mVar 1) (mCons (mC (D.int 6)) mNil)))))) (tgName 6) (mC true) le_law_1 [6])) mNil)) (env := lawE w0 M x2 (some WS) (some (.str t)) x5 x7 x8 x9 x10 x11 x12 x13 x14 x15 x16 x17) (μ := μ2) (xs := [dE [], .lst (R.map rowE)]) (cons_s (a := mFzD (mC ([], []))) (x := dE []) rfl (cons_s (fz_s lc) rfl))).trans pt
    exact asg_s (i := 5) c
  have s2 : ((sAsg (mCell (mLst (mCons (mFz (mLst (mCons (mMethCP "Entry" m_Entry_of (mC (D.cls "Entry")) (mCons (mVar 4) (mCons (mVar 5) mNil))) (mCons (mVar 4) (mCons (mVar 5) mNil))))) mNil))) (tgName 7))) (lawE w0 M x2 (some WS) (some (.str t)) (some DT) x7 x8 x9 x10 x11 x12 x13 x14 x15 x16 x17) μ4 = .nx (lawE w0 M x2 (some WS) (some (.str t)) (some DT) (some (.ref 1)) x8 x9 x10 x11 x12 x13 x14 x15 x16 x17) (μ4 ++ [.lst ([(t, T)].map rwD)]) := by
    obtain ⟨E, hE⟩ : ∃ E, E = lawE w0 M x2 (some WS) (some (.str t)) (some DT) x7 x8 x9 x10 x11 x12 x13 x14 x15 x16 x17 := ⟨_, rfl⟩
    have g4 : mVar 4 E μ4 = .ok (.str t) μ4 := by rw [hE]; rfl
    have g5 : mVar 5 E μ4 = .ok (dE T) μ4 := by rw [hE, ← hDT]; rfl
    have m := (methCP_of (c := "Entry") (f := m_Entry_of) (cons_ok g4 (cons_ok g5 nil_ok))).trans (e_of ht (nm_1 l4 ht) rt.ok)
    have r : mFz (mLst (mCons (mMethCP "Entry" m_Entry_of (mC (D.cls "Entry")) (mCons (mVar 4) (mCons (mVar 5) mNil))) (mCons (mVar 4) (mCons (mVar 5) mNil)))) E μ4 = .ok (rwD (t, T)) μ4 := fz_ok (cons_ok m (cons_ok g4 (cons_ok g5 nil_ok))) (by simp)
    have c : mCell (mLst (mCons (mFz (mLst (mCons (mMethCP "Entry" m_Entry_of (mC (D.cls "Entry")) (mCons (mVar 4) (mCons (mVar 5) mNil))) (mCons (mVar 4) (mCons (mVar 5) mNil))))) mNil)) E μ4 = .ok (.ref 1) (μ4 ++ [.lst ([(t, T)].map rwD)]) := by
      unfold mCell
      rw [lst_s (cons_ok r nil_ok) (by simp)]
      show (if pureL [rwD (t, T)] = true then Rs.ok (D.ref μ4.length) (μ4 ++ [Cell.lst [rwD (t, T)]]) else .no) = _
      rw [if_pos (by
        show (pureD (rwD (t, T)) && true) = true
        rw [pure_rwD rt]
        rfl), l4]
      rfl
    rw [← hE]
    exact (asg_s (i := 7) c).trans (by rw [hE]; rfl)
  have s3 : ((sFor (mRange1 (mCons (mOp dAdd (mC (D.int 3)) (mCall m_l_draw (mCons (mVar 1) (mCons (mC (D.int 7)) mNil)))) mNil)) (tgName 8) lb_law_2)) (lawE w0 M x2 (some WS) (some (.str t)) (some DT) (some (.ref 1)) x8 x9 x10 x11 x12 x13 x14 x15 x16 x17) (μ4 ++ [.lst ([(t, T)].map rwD)]) = .nx (lawE w0 M x2 (some WS) (some (.str t)) (some DT) (some (.ref 1)) y8 y9 x10 x11 x12 x13 x14 x15 x16 x17) (N6 ++ [.lst (ps.map rwD)]) := by
    have ad : mOp dAdd (mC (D.int 3)) (mCall m_l_draw (mCons (mVar 1) (mCons (mC (D.int 7)) mNil))) (lawE w0 M x2 (some WS) (some (.str t)) (some DT) (some (.ref 1)) x8 x9 x10 x11 x12 x13 x14 x15 x16 x17) (μ4 ++ [.lst ([(t, T)].map rwD)]) = .ok (.int ((3 + z : Nat) : Int)) (N5 ++ [.lst ([(t, T)].map rwD)]) := by
      have c := (call_s (f := m_l_draw) (as := mCons (mVar 1) (mCons (mC (D.int 7)) mNil)) (env := lawE w0 M x2 (some WS) (some (.str t)) (some DT) (some (.ref 1)) x8 x9 x10 x11 x12 x13 x14 x15 x16 x17) (cons_ok (x := M) rfl (cons_ok rfl nil_ok))).trans e5
      unfold mOp
      show (mCall m_l_draw _ _ _).bind _ = _
      rw [c]
      show Rs.ok (D.int ((3 : Int) + (z : Int))) _ = _
      rw [Int.natCast_add]
      rfl
    have rg := rng_of (n := 3 + z) (m := mCons (mOp dAdd (mC (D.int 3)) (mCall m_l_draw (mCons (mVar 1) (mCons (mC (D.int 7)) mNil)))) mNil) (by omega) (cons_s ad rfl)
    unfold sFor
    rw [rg]
    exact e6
  obtain ⟨env7, h7, z10, z11, z12, z13, z14, z15, z16, z17, rfl, k10, k11, k12, k13, k14, k15, k16, k17⟩ := forGo_st (μ := N6 ++ [.lst (ps.map rwD)]) (gd := some (1, ps.map rwD)) (tg := tgL 3 (tgCons (tgName 10) (tgCons (tgName 11) (tgCons (tgName 12) tgNil)))) (body := lb_law_5) rwD
    (fun env => ∃ y10 y11 y12 y13 y14 y15 y16 y17, env = lawE w0 M x2 (some WS) (some (.str t)) (some DT) (some (.ref 1)) y8 y9 y10 y11 y12 y13 y14 y15 y16 y17 ∧ F2 1 y10 ∧ F2 1 y11 ∧ F2 1 y12 ∧ F2 1 y13 ∧ F2 1 y14 ∧ F2 1 y15 ∧ F2 1 y16 ∧ F2 1 y17) (gd_rows hc6) ps
    (fun p hp env ⟨y10, y11, y12, y13, y14, y15, y16, y17, he, _, _, _, h13, h14, h15, h16, h17⟩ => by
      subst he
      obtain ⟨z13, z14, z15, z16, z17, e, j13, j14, j15, j16, j17⟩ := row_one (w0 := w0) (M := M) (x2 := x2) (x3 := some WS) (x4 := some (.str t)) (x5 := some DT) (x8 := y8) (x9 := y9) l6b hc6 hps hp h13 h14 h15 h16 h17
      exact ⟨_, _, rfl, e, _, _, _, _, _, _, _, _, rfl, f1_e (hps p hp), f1_s, f1_d, j13, j14, j15, j16, j17⟩)
    (lawE w0 M x2 (some WS) (some (.str t)) (some DT) (some (.ref 1)) y8 y9 x10 x11 x12 x13 x14 x15 x16 x17) ⟨_, _, _, _, _, _, _, _, rfl, f10, f11, f12, f13, f14, f15, f16, f17⟩
  have s4 : ((sFor (mIter (mVar 7)) (tgL 3 (tgCons (tgName 10) (tgCons (tgName 11) (tgCons (tgName 12) tgNil)))) lb_law_5)) (lawE w0 M x2 (some WS) (some (.str t)) (some DT) (some (.ref 1)) y8 y9 x10 x11 x12 x13 x14 x15 x16 x17) (N6 ++ [.lst (ps.map rwD)]) = .nx (lawE w0 M x2 (some WS) (some (.str t)) (some DT) (some (.ref 1)) y8 y9 z10 z11 z12 z13 z14 z15 z16 z17) (N6 ++ [.lst (ps.map rwD)]) := by
    unfold sFor
    rw [it_ref (o := mVar 7) (k := 1) rfl hc6]
    exact h7
  have all : lb_law_6 (lawE w0 M x2 x3 x4 x5 x7 x8 x9 x10 x11 x12 x13 x14 x15 x16 x17) μ = .nx (lawE w0 M x2 (some WS) (some (.str t)) (some DT) (some (.ref 1)) y8 y9 z10 z11 z12 z13 z14 z15 z16 z17) (N6 ++ [.lst (ps.map rwD)]) := by
    unfold lb_law_6
    rw [seq_nx s0, seq_nx s1, seq_nx s2, seq_nx s3]
    exact s4
  have fin : finE μ.length (N6 ++ [.lst (ps.map rwD)]) (lawE w0 M x2 (some WS) (some (.str t)) (some DT) (some (.ref 1)) y8 y9 z10 z11 z12 z13 z14 z15 z16 z17) = some (lawE w0 M x2 (some WS) (some (.str t)) (some DT) (some (.lst (ps.map rwD))) y8 y9 z10 z11 z12 z13 z14 z15 z16 z17) := by
    rw [hl]
    exact finE_cons (f0 _) (finE_cons (fM _) (finE_cons (f2 _) (finE_cons (fW _) (finE_cons (f1_s _) (finE_cons (fD _) (finE_cons rfl (finE_cons (fin_cell l6) (finE_cons (g8 _) (finE_cons (g9 _) (finE_cons (k10 _) (finE_cons (k11 _) (finE_cons (k12 _) (finE_cons (k13 _) (finE_cons (k14 _) (finE_cons (k15 _) (finE_cons (k16 _) (finE_cons (k17 _) rfl)))))))))))))))))
  refine ⟨some WS, some (.str t), some DT, some (.lst (ps.map rwD)), y8, y9, z10, z11, z12, z13, z14, z15, z16, z17, N6, ?_, ⟨g8, g9, k10, k11, k12, k13, k14, k15, k16, k17⟩, ((w1.trans w2).trans (w3.trans (w4.trans (w5.trans w6)))).less (by omega)⟩
  rw [blk_nx all fin, hl, List.take_left' l6]
theorem pureL_ints : ∀ l : List Int, pureL (l.map D.int) = true
  | [] => rfl
  | _ :: l => pureL_ints l
theorem p_law (ns : List Int) (hn : ns.length ≤ 63) : ∃ μ', b_law (some (.wl (ns.map D.int)) :: List.replicate 17 none) [] = .rt (.bl true) μ' := by
  have f0 : F2 1 (some (.wl (ns.map D.int))) := f2_pure (show pureL (ns.map D.int) = true from pureL_ints ns)
  have s0 : ((sAsg (mFzD (mDisp (((mC (D.str [99, 101, 108, 108, 115])), (mFz (mCc lList (mCons (mVar 0) mNil)))) :: ((mC (D.str [115, 112, 111, 116])), (mCell (mLst (mCons (mC (D.int 0)) mNil)))) :: []))) (tgName 1))) (some (.wl (ns.map D.int)) :: List.replicate 17 none) [] = .nx (lawE (.wl (ns.map D.int)) (dmD ns 0) none none none none none none none none none none none none none none none) [spC 0] := by
    unfold dmD
    generalize ns.map D.int = X
    kernel_rfl
  obtain ⟨w0, hw⟩ : ∃ w0, w0 = D.wl (ns.map D.int) := ⟨_, rfl⟩
  rw [← hw] at s0 f0 ⊢
  obtain ⟨env2, μ2, e3, _⟩ := forGo_inv (tg := tgName 2) (body := sBlk lb_law_6) (fun ds env ν => (∃ y2 y3 y4 y5 y7 y8 y9 y10 y11 y12 y13 y14 y15 y16 y17, env = lawE w0 (dmD ns 0) y2 y3 y4 y5 y7 y8 y9 y10 y11 y12 y13 y14 y15 y16 y17 ∧ (F2 1 y8 ∧ F2 1 y9 ∧ F2 1 y10 ∧ F2 1 y11 ∧ F2 1 y12 ∧ F2 1 y13 ∧ F2 1 y14 ∧ F2 1 y15 ∧ F2 1 y16 ∧ F2 1 y17)) ∧ ν.length = 1 ∧ Ds ν 0 (300 * ds.length) ∧ ∀ d ∈ ds, ∃ i : Nat, d = .int (i : Int)) (fun d ds env ν ⟨⟨y2, y3, y4, y5, y7, y8, y9, y10, y11, y12, y13, y14, y15, y16, y17, he, h8, h9, h10, h11, h12, h13, h14, h15, h16, h17⟩, hl, hD, hds⟩ => by
    subst he
    rw [List.length_cons] at hD
    obtain ⟨i, rfl⟩ := hds d (.head _)
    obtain ⟨z3, z4, z5, z7, z8, z9, z10, z11, z12, z13, z14, z15, z16, z17, ν', e, hz, wz⟩ := turn (w0 := w0) (x2 := some (.int (i : Int))) (x3 := y3) (x4 := y4) (x5 := y5) (x7 := y7) (n := 300 * ds.length) hn hl (hD.less (by omega)) f0 (f2_pure rfl) h8 h9 h10 h11 h12 h13 h14 h15 h16 h17
    exact ⟨lawE w0 (dmD ns 0) (some (.int (i : Int))) y3 y4 y5 y7 y8 y9 y10 y11 y12 y13 y14 y15 y16 y17, rfl, _, ν', e, ⟨_, _, _, _, _, _, _, _, _, _, _, _, _, _, _, rfl, hz⟩, wz.len.trans hl, wz.ds, fun x hx => hds x (.tail _ hx)⟩)
    (rngL 0 4) (lawE w0 (dmD ns 0) none none none none none none none none none none none none none none none) [spC 0] ⟨⟨_, _, _, _, _, _, _, _, _, _, _, _, _, _, _, rfl, f2_none, f2_none, f2_none, f2_none, f2_none, f2_none, f2_none, f2_none, f2_none, f2_none⟩, rfl, ⟨0, rfl, by decide, by rw [rngN_len]; decide⟩, fun d hd => by
      unfold rngL at hd
      obtain ⟨k, _, rfl⟩ := List.mem_map.mp hd
      exact ⟨k, by rw [Int.zero_add]⟩⟩
  have s1 : ((sFor (mRange1 (mCons (mC (D.int 4)) mNil)) (tgName 2) (sBlk lb_law_6))) (lawE w0 (dmD ns 0) none none none none none none none none none none none none none none none) [spC 0] = .nx env2 μ2 := by
    have rg : mRange1 (mCons (mC (D.int 4)) mNil) (lawE w0 (dmD ns 0) none none none none none none none none none none none none none none none) [spC 0] = .ok (rngL 0 4, none) [spC 0] := rng_of (n := 4) (by decide) rfl
    unfold sFor
    rw [rg]
    exact e3
  refine ⟨μ2, ?_⟩
  unfold b_law
  rw [seq_nx s0, seq_nx s1]
  rfl
end
end
end My
namespace My
open PySem PySem.Spec PyProof.Rows L2
theorem law_end {P : Program} [hP : OkP fileS P] {w : World} {K : PySem.W.Frag} {h : Heap} {mg : Str → Option Value} {fa : Addr} (T : Tx K mg) (KX : K.In h) (hmg : mg ("law" : Str) = some (.ref fa)) :
    ∃ (K : PySem.W.Frag) (fd : FuncData) (sp : Sp), K.In h ∧ (∀ (s : Shared) (u : Value), BindsTo s fd ⟨[u], []⟩ [("_law_script", u)]) ∧
      (∀ (H : Hp) (a : Addr) (ns : List Int), ns.length ≤ 63 → Only H → SqL K H a (ns.map V.int) → sp [.ref a] H (fun v _ => v = .bl true) fun _ _ _ => False) ∧
      ∀ base : Heap, K.In base → base.Ns mainGlobals mg → FnOk P w K mg base CX0 13 fa fd ["_law_script"] sp := by
  obtain ⟨f, fd, F, hm⟩ := T.d_law.ex
  rw [hmg] at hm
  cases hm
  have b := FunD.bindsA (ps := ["_law_script"]) F fun _ _ _ _ _ _ us hl => match us, hl with | [_], _ => rfl
  refine ⟨K, fd, sp_lawM K, KX, fun s v => b s [v] rfl, fun H a ns hl hO hS => ?_, fun base _ _ => c_law (P := P) (w := w) (base := base) T F p_law⟩
  exact ⟨a, ns, rfl, hS, hl, fun _ => rfl⟩
end My
namespace My
open PySem PySem.Spec PyProof.Rows L2
theorem hfact {K : PySem.W.Frag} (c : SaysY hex hfn K) (i : Nat) {f : PySem.W.Frag → Bool} (h : hbs[i]? = some f) : f K = true := List.all_eq_true.mp (show (hbs.all fun f => f K) = true from c.more) f (List.mem_of_getElem? h)
theorem tx_of {K : PySem.W.Frag} {h : Heap} {mg : Str → Option Value} (X : K.In h) (G : h.Ns mainGlobals mg) (c : SaysY hex hfn K) : Tx K mg where
  d_is_word := by
    obtain ⟨fd, F⟩ := c.def_ 0 (d := hd0) rfl
    have h := (hfact c 20 (f := fun K => (He.Fa.glo "is_word").ok K) rfl)
    exact ⟨_, fd, F, He.glo_ok X G h⟩
  d_is_value := by
    obtain ⟨fd, F⟩ := c.def_ 1 (d := hd1) rfl
    have h := (hfact c 21 (f := fun K => (He.Fa.glo "is_value").ok K) rfl)
    exact ⟨_, fd, F, He.glo_ok X G h⟩
  d_plain_text := by
    obtain ⟨fd, F⟩ := c.def_ 2 (d := hd2) rfl
    have h := (hfact c 22 (f := fun K => (He.Fa.glo "plain_text").ok K) rfl)
    exact ⟨_, fd, F, He.glo_ok X G h⟩
  d_is_plain := by
    obtain ⟨fd, F⟩ := c.def_ 3 (d := hd3) rfl
    have h := (hfact c 23 (f := fun K => (He.Fa.glo "is_plain").ok K) rfl)
    exact ⟨_, fd, F, He.glo_ok X G h⟩
  d_escaped := by
    obtain ⟨fd, F⟩ := c.def_ 4 (d := hd4) rfl
    have h := (hfact c 24 (f := fun K => (He.Fa.glo "escaped").ok K) rfl)
    exact ⟨_, fd, F, He.glo_ok X G h⟩
  d_value_at := by
    obtain ⟨fd, F⟩ := c.def_ 5 (d := hd5) rfl
    have h := (hfact c 25 (f := fun K => (He.Fa.glo "value_at").ok K) rfl)
    exact ⟨_, fd, F, He.glo_ok X G h⟩
  d_read_name := by
    obtain ⟨fd, F⟩ := c.def_ 6 (d := hd6) rfl
    have h := (hfact c 26 (f := fun K => (He.Fa.glo "read_name").ok K) rfl)
    exact ⟨_, fd, F, He.glo_ok X G h⟩
  d_leaf_text := by
    obtain ⟨fd, F⟩ := c.def_ 7 (d := hd7) rfl
    have h := (hfact c 27 (f := fun K => (He.Fa.glo "leaf_text").ok K) rfl)
    exact ⟨_, fd, F, He.glo_ok X G h⟩
  d_normal_leaf := by
    obtain ⟨fd, F⟩ := c.def_ 8 (d := hd8) rfl
    have h := (hfact c 28 (f := fun K => (He.Fa.glo "normal_leaf").ok K) rfl)
    exact ⟨_, fd, F, He.glo_ok X G h⟩
  d_order_of := by
    obtain ⟨fd, F⟩ := c.def_ 9 (d := hd9) rfl
    have h := (hfact c 29 (f := fun K => (He.Fa.glo "order_of").ok K) rfl)
    exact ⟨_, fd, F, He.glo_ok X G h⟩
  d_need_name := by
    obtain ⟨fd, F⟩ := c.def_ 10 (d := hd10) rfl
    have h := (hfact c 30 (f := fun K => (He.Fa.glo "need_name").ok K) rfl)
    exact ⟨_, fd, F, He.glo_ok X G h⟩
  d_need_table := by
    obtain ⟨fd, F⟩ := c.def_ 11 (d := hd11) rfl
    have h := (hfact c 31 (f := fun K => (He.Fa.glo "need_table").ok K) rfl)
    exact ⟨_, fd, F, He.glo_ok X G h⟩
  d_l_cell := by
    obtain ⟨fd, F⟩ := c.def_ 12 (d := hd12) rfl
    have h := (hfact c 32 (f := fun K => (He.Fa.glo "_law_cell").ok K) rfl)
    exact ⟨_, fd, F, He.glo_ok X G h⟩
  d_l_draw := by
    obtain ⟨fd, F⟩ := c.def_ 13 (d := hd13) rfl
    have h := (hfact c 33 (f := fun K => (He.Fa.glo "_law_draw").ok K) rfl)
    exact ⟨_, fd, F, He.glo_ok X G h⟩
  d_l_of := by
    obtain ⟨fd, F⟩ := c.def_ 14 (d := hd14) rfl
    have h := (hfact c 34 (f := fun K => (He.Fa.glo "_law_of").ok K) rfl)
    exact ⟨_, fd, F, He.glo_ok X G h⟩
  d_l_words := by
    obtain ⟨fd, F⟩ := c.def_ 15 (d := hd15) rfl
    have h := (hfact c 35 (f := fun K => (He.Fa.glo "_law_words").ok K) rfl)
    exact ⟨_, fd, F, He.glo_ok X G h⟩
  d_l_values := by
    obtain ⟨fd, F⟩ := c.def_ 16 (d := hd16) rfl
    have h := (hfact c 36 (f := fun K => (He.Fa.glo "_law_values").ok K) rfl)
    exact ⟨_, fd, F, He.glo_ok X G h⟩
  d_l_text := by
    obtain ⟨fd, F⟩ := c.def_ 17 (d := hd17) rfl
    have h := (hfact c 37 (f := fun K => (He.Fa.glo "_law_text").ok K) rfl)
    exact ⟨_, fd, F, He.glo_ok X G h⟩
  d_l_is_model := by
    obtain ⟨fd, F⟩ := c.def_ 18 (d := hd18) rfl
    have h := (hfact c 38 (f := fun K => (He.Fa.glo "_law_is_model").ok K) rfl)
    exact ⟨_, fd, F, He.glo_ok X G h⟩
  d_l_put := by
    obtain ⟨fd, F⟩ := c.def_ 19 (d := hd19) rfl
    have h := (hfact c 39 (f := fun K => (He.Fa.glo "_law_put").ok K) rfl)
    exact ⟨_, fd, F, He.glo_ok X G h⟩
  d_l_changed := by
    obtain ⟨fd, F⟩ := c.def_ 20 (d := hd20) rfl
    have h := (hfact c 40 (f := fun K => (He.Fa.glo "_law_changed").ok K) rfl)
    exact ⟨_, fd, F, He.glo_ok X G h⟩
  d_l_refused := by
    obtain ⟨fd, F⟩ := c.def_ 21 (d := hd21) rfl
    have h := (hfact c 41 (f := fun K => (He.Fa.glo "_law_refused").ok K) rfl)
    exact ⟨_, fd, F, He.glo_ok X G h⟩
  d_law := by
    obtain ⟨fd, F⟩ := c.def_ 22 (d := hd22) rfl
    have h := (hfact c 42 (f := fun K => (He.Fa.glo "law").ok K) rfl)
    exact ⟨_, fd, F, He.glo_ok X G h⟩
  d_Name___init := by
    obtain ⟨fd, F⟩ := c.def_ 23 (d := hd23) rfl
    exact ⟨fd, F⟩
  d_Name_text := by
    obtain ⟨fd, F⟩ := c.def_ 24 (d := hd24) rfl
    exact ⟨fd, F⟩
  d_Name___eq := by
    obtain ⟨fd, F⟩ := c.def_ 25 (d := hd25) rfl
    exact ⟨fd, F⟩
  d_Entry___init := by
    obtain ⟨fd, F⟩ := c.def_ 26 (d := hd26) rfl
    exact ⟨fd, F⟩
  d_Entry_of := by
    obtain ⟨fd, F⟩ := c.def_ 27 (d := hd27) rfl
    exact ⟨fd, F⟩
  d_Entry_name := by
    obtain ⟨fd, F⟩ := c.def_ 28 (d := hd28) rfl
    exact ⟨fd, F⟩
  d_Entry_words := by
    obtain ⟨fd, F⟩ := c.def_ 29 (d := hd29) rfl
    exact ⟨fd, F⟩
  d_Entry___getitem := by
    obtain ⟨fd, F⟩ := c.def_ 30 (d := hd30) rfl
    exact ⟨fd, F⟩
  d_Entry___eq := by
    obtain ⟨fd, F⟩ := c.def_ 31 (d := hd31) rfl
    exact ⟨fd, F⟩
  d_Entry_with_values := by
    obtain ⟨fd, F⟩ := c.def_ 32 (d := hd32) rfl
    exact ⟨fd, F⟩
  d_Entry_renamed := by
    obtain ⟨fd, F⟩ := c.def_ 33 (d := hd33) rfl
    exact ⟨fd, F⟩
  G := by
    have h := (hfact c 0 (f := fun K => ctB K ctab) rfl)
    exact ctB_ok h
  k_BadEntry := by
    have h := (hfact c 1 (f := fun K => (He.Fa.glo "BadEntry").ok K) rfl)
    exact He.glo_ok X G h
  k_BadName := by
    have h := (hfact c 2 (f := fun K => (He.Fa.glo "BadName").ok K) rfl)
    exact He.glo_ok X G h
  k_Entry := by
    have h := (hfact c 3 (f := fun K => (He.Fa.glo "Entry").ok K) rfl)
    exact He.glo_ok X G h
  k_Name := by
    have h := (hfact c 4 (f := fun K => (He.Fa.glo "Name").ok K) rfl)
    exact He.glo_ok X G h
  mk_Entry := by
    have h := (hfact c 5 (f := fun K => (He.Fa.mkr "Entry").ok K) rfl)
    exact He.mkr_ok h
  mk_Name := by
    have h := (hfact c 6 (f := fun K => (He.Fa.mkr "Name").ok K) rfl)
    exact He.mkr_ok h
  p_Entry_name := by
    have h := (hfact c 7 (f := fun K => propsB K ["Entry"] "name" (gp K "Entry" "name")) rfl)
    exact propsB_ok h
  p_Entry_words := by
    have h := (hfact c 8 (f := fun K => propsB K ["Entry"] "words" (gp K "Entry" "words")) rfl)
    exact propsB_ok h
  p_Name_text := by
    have h := (hfact c 9 (f := fun K => propsB K ["Name"] "text" (gp K "Name" "text")) rfl)
    exact propsB_ok h
  it_Entry := by
    have h := (hfact c 10 (f := fun K => itmB K "Entry") rfl)
    exact h
  er_BadName := by
    have h := (hfact c 11 (f := fun K => errKB K (He.ga K "BadName") "ValueError" "ValueError.__new__" "ValueError.__init__" [.type "ValueError", .type "Exception", .type "BaseException", .type "object"] (He.ma K (He.ga K "BadName") "__init__") (nmS ["given"])) rfl)
    exact errT_of (d := hd34) (Cf := fun K => He.ga K "BadName") eb_ValueError h rfl rfl rfl rfl (c.obs_ 34 (d := hd34) rfl) ⟨rfl, rfl, rfl, by decide +kernel, by decide +kernel, by decide +kernel, by decide +kernel, by decide +kernel, by decide +kernel⟩ ⟨⟨_, _, _, _, _, _, _, _, rfl, by decide⟩, ⟨_, _, _, _, rfl⟩⟩ ⟨_, rfl, rfl⟩ (fun _ _ _ _ us _ _ _ _ _ hl => match us, hl with | [_], _ => BindsTo.of_eq (by rfl)) (by decide +kernel) (by decide +kernel) (by decide)
  er_BadEntry := by
    have h := (hfact c 12 (f := fun K => errKB K (He.ga K "BadEntry") "ValueError" "ValueError.__new__" "ValueError.__init__" [.type "ValueError", .type "Exception", .type "BaseException", .type "object"] (He.ma K (He.ga K "BadEntry") "__init__") (nmS ["given"])) rfl)
    exact errT_of (d := hd35) (Cf := fun K => He.ga K "BadEntry") eb_ValueError h rfl rfl rfl rfl (c.obs_ 35 (d := hd35) rfl) ⟨rfl, rfl, rfl, by decide +kernel, by decide +kernel, by decide +kernel, by decide +kernel, by decide +kernel, by decide +kernel⟩ ⟨⟨_, _, _, _, _, _, _, _, rfl, by decide⟩, ⟨_, _, _, _, rfl⟩⟩ ⟨_, rfl, rfl⟩ (fun _ _ _ _ us _ _ _ _ _ hl => match us, hl with | [_], _ => BindsTo.of_eq (by rfl)) (by decide +kernel) (by decide +kernel) (by decide)
  Ec := by
    have h := (hfact c 13 (f := fun K => ecB K ecs) rfl)
    exact ecB_ok h
  Er := by
    have h := (hfact c 14 (f := fun K => erB K ecs efs) rfl)
    exact erB_ok h
  cm_Entry_of := by
    have h := (hfact c 15 (f := fun K => cmB K "Entry" "of") rfl)
    exact cmB_ok h
  mt_Entry___eq := by
    have h := (hfact c 16 (f := fun K => methB K ["Entry"] "__eq__" (He.ma K (He.ga K "Entry") "__eq__")) rfl)
    exact methB_ok h
  mt_Entry_renamed := by
    have h := (hfact c 17 (f := fun K => methB K ["Entry"] "renamed" (He.ma K (He.ga K "Entry") "renamed")) rfl)
    exact methB_ok h
  mt_Entry_with_values := by
    have h := (hfact c 18 (f := fun K => methB K ["Entry"] "with_values" (He.ma K (He.ga K "Entry") "with_values")) rfl)
    exact methB_ok h
  mt_Name___eq := by
    have h := (hfact c 19 (f := fun K => methB K ["Name"] "__eq__" (He.ma K (He.ga K "Name") "__eq__")) rfl)
    exact methB_ok h
  b_len := by
    have h := (hfact c 43 (f := fun K => (He.Fa.free "len").ok K) rfl)
    exact He.free_ok X G h
  b_isinstance := by
    have h := (hfact c 44 (f := fun K => (He.Fa.free "isinstance").ok K) rfl)
    exact He.free_ok X G h
  b_str := by
    have h := (hfact c 45 (f := fun K => (He.Fa.free "str").ok K) rfl)
    exact He.free_ok X G h
  b_all := by
    have h := (hfact c 46 (f := fun K => (He.Fa.free "all").ok K) rfl)
    exact He.free_ok X G h
  b_enumerate := by
    have h := (hfact c 47 (f := fun K => (He.Fa.free "enumerate").ok K) rfl)
    exact He.free_ok X G h
  b_tuple := by
    have h := (hfact c 48 (f := fun K => (He.Fa.free "tuple").ok K) rfl)
    exact He.free_ok X G h
  b_sorted := by
    have h := (hfact c 49 (f := fun K => (He.Fa.free "sorted").ok K) rfl)
    exact He.free_ok X G h
  b_dict := by
    have h := (hfact c 50 (f := fun K => (He.Fa.free "dict").ok K) rfl)
    exact He.free_ok X G h
  b_super := by
    have h := (hfact c 51 (f := fun K => (He.Fa.free "super").ok K) rfl)
    exact He.free_ok X G h
  b_max := by
    have h := (hfact c 52 (f := fun K => (He.Fa.free "max").ok K) rfl)
    exact He.free_ok X G h
  b_int := by
    have h := (hfact c 53 (f := fun K => (He.Fa.free "int").ok K) rfl)
    exact He.free_ok X G h
  b_range := by
    have h := (hfact c 54 (f := fun K => (He.Fa.free "range").ok K) rfl)
    exact He.free_ok X G h
  b_reversed := by
    have h := (hfact c 55 (f := fun K => (He.Fa.free "reversed").ok K) rfl)
    exact He.free_ok X G h
  b_list := by
    have h := (hfact c 56 (f := fun K => (He.Fa.free "list").ok K) rfl)
    exact He.free_ok X G h
  g_MAX_WORD := by
    have h := (hfact c 57 (f := fun K => (He.Fa.int "MAX_WORD" 12).ok K) rfl)
    exact He.int_ok X G h
  g_LETTERS := by
    have h := (hfact c 58 (f := fun K => (He.Fa.str "LETTERS" "abcdefghijklmnopqrstuvwxyz").ok K) rfl)
    exact He.str_ok X G h
  g_MAX_TEXT := by
    have h := (hfact c 59 (f := fun K => (He.Fa.int "MAX_TEXT" 60).ok K) rfl)
    exact He.int_ok X G h
  g_ESCAPED := by
    have h := (hfact c 60 (f := fun K => (He.Fa.str "ESCAPED" ",+=\\").ok K) rfl)
    exact He.str_ok X G h
  g_BACKSLASH := by
    have h := (hfact c 61 (f := fun K => (He.Fa.str "BACKSLASH" "\\").ok K) rfl)
    exact He.str_ok X G h
  g_MAX_PAIRS := by
    have h := (hfact c 62 (f := fun K => (He.Fa.int "MAX_PAIRS" 4).ok K) rfl)
    exact He.int_ok X G h
  g_MAX_LEAVES := by
    have h := (hfact c 63 (f := fun K => (He.Fa.int "MAX_LEAVES" 12).ok K) rfl)
    exact He.int_ok X G h
end My
open PySem PySem.W PySem.Calls PyProof.Rows
set_option maxHeartbeats 0 in
theorem PySem.Challenge.cw_dirservice_k19_whole_entries_as_plain_di_holds : PySem.Challenge.rw_dirservice_k19_whole_entries_as_plain_di.Holds := by
  w_on; o_law
  refine HandSHeadRun.head_any (r := OpenLaw.row PySem.Challenge.rw_dirservice_k19_whole_entries_as_plain_di) (q := view (OpenLaw.row PySem.Challenge.rw_dirservice_k19_whole_entries_as_plain_di).prog [42]) (H := My.hhk) (ob := My.hob) (M := 16720) (loose := My.hloose) (d := HandSHeadRun.topDef (OpenLaw.row PySem.Challenge.rw_dirservice_k19_whole_entries_as_plain_di).prog 42) (kwd := []) My.hob_eq
    (by kernel_rfl) (fun s => by kernel_rfl) My.hrun (by kernel_rfl) (by kernel_rfl) (by kernel_rfl) (by rfl) (by first | assumption | decide +kernel) (by decide +kernel) ⟨rfl, rfl, rfl, rfl, rfl, by decide +kernel⟩ ?hw ?hc
  case hw => w_witness2
  case hc =>
    refine L2.walk_ofE (l := PySem.Challenge.rw_dirservice_k19_whole_entries_as_plain_di) (n := 63) (k := 13) (x := "_law_script") (CX := L2.CX0) rfl (by decide) (by kernel_rfl) ⟨rfl, by decide, by decide⟩ ?F (fun _ _ _ _ z => z)
    intro w mg fa h Y G hmg0
    obtain ⟨K, KX, c⟩ := Y
    have hmg : mg ("law" : PySem.Str) = some (.ref fa) := by
      have e : (HandSHeadRun.topDef (OpenLaw.row PySem.Challenge.rw_dirservice_k19_whole_entries_as_plain_di).prog 42).name = ("law" : PySem.Str) := by kernel_rfl
      rw [← e]
      exact hmg0
    have T := My.tx_of KX G c
    exact My.law_end (P := (PySem.Challenge.rw_dirservice_k19_whole_entries_as_plain_di).prog) (w := w) T KX hmg
