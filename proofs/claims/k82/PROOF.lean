import PyProof.Rows.All
import Wide.All
import OpenK.AllK
import Wide.FinOn
import KE.KStateDown
import HandS.ForMost
import HandS.ForExc
import HandS.Words
import HandS.WordsExc
import HandS.Defaults
import HandS.Zip
import HandS.TupLe
import HandS.Deep
import HandS.Conv
import HandS.SortInts
import HandS.IsInst
import HandS.Flow
import HandS.Style
import HandS.Head0
import HandS.Head1
import HandS.Head2
import HandS.HeadHook4
import HandS.HeadWalk
import KE.DataCmp
import KE.GoesNew
import KE.KTupSum
import HandS.TupAny
import HandS.TupMul
import PyProof.TupleOfSeq
import KE.GoesMore
import KE.GoesEnum
import HandS.Walk
import KE.SortData
import HandS.EndTab
import HandS.Lambda
import PyProof.ReprRoads
import HandS.ExcInit
import HandS.ExcField
import KE.KExcSuper
import KE.KSuper
import HandS.TryOnly
import HandS.ExcIs
import KE.GoesZip
import KE.KDictZip
import KE.DataMinMax
import PyProof.StrOps2
import HandS.Codes
import HandS.Property
import HandS.MakeKwOnly
import PyProof.InstNe
import HandS.ListItems
import HandS.DictComp
import HandS.WordsDict
import HandS.More
import HandS.Small
import HandS.Iter
import HandS.SetFor
import HandS.TupSets
import HandS.TryMany
import HandS.MakeKw
import HandS.Star
import Lean
import PySem.Challenge.RW_promisedpost_k82_whole_works
set_option Elab.async false
set_option linter.all false
set_option maxRecDepth 100000
set_option maxHeartbeats 0
/-! PB: readings in small steps (r_..), rules for any kind of operand, calls bundled. -/
namespace PB
open PySem PySem.Spec L2
open PyProof.Rows hiding St

/-! ### heaps -/
/-- all that stood stands -/
abbrev Ex (H H' : Hp) : Prop := ∀ a o, H a = some o → H' a = some o
theorem Ex.refl (H : Hp) : Ex H H := fun _ _ h => h
theorem Ex.trans {A B C : Hp} (a : Ex A B) (b : Ex B C) : Ex A C := fun x o h => b x o (a x o h)
theorem Ex.new {H : Hp} {p : Addr} {o : HO} (h : H p = none) : Ex H (upd H p o) := fun a u e => (upd_ne (ne_of_none e h)).trans e
theorem Ex.add {H H' : Hp} {p : Addr} {o : HO} (e : Ex H H') (h : H' p = none) : Ex H (upd H' p o) := e.trans (Ex.new h)
theorem Ex.free {H H' : Hp} (e : Ex H H') {p : Addr} (h : H' p = none) : H p = none := by
  cases q : H p with
  | none => rfl
  | some o =>
    have z := e p o q
    rw [h] at z
    cases z
/-- all that stood stands, but what stands at d -/
def ExB (d : Addr) (H H' : Hp) : Prop := ∀ a o, a ≠ d → H a = some o → H' a = some o
theorem ExB.refl (d : Addr) (H : Hp) : ExB d H H := fun _ _ _ h => h
theorem ExB.of {d : Addr} {H H' : Hp} (e : Ex H H') : ExB d H H' := fun a o _ h => e a o h
theorem ExB.trans {d : Addr} {A B C : Hp} (a : ExB d A B) (b : ExB d B C) : ExB d A C := fun x o n h => b x o n (a x o n h)
theorem ExB.put {d : Addr} {H : Hp} {o : HO} : ExB d H (upd H d o) := fun a u n e => (upd_ne n).trans e
theorem Ex.sqL {K : PySem.W.Frag} {H H' : Hp} {a : Addr} {xs : List V} (e : Ex H H') (h : SqL K H a xs) : SqL K H' a xs := Same.seq e h
theorem Ex.sqT {K : PySem.W.Frag} {H H' : Hp} {a : Addr} {xs : List V} (e : Ex H H') (h : SqT K H a xs) : SqT K H' a xs := by
  rcases h with (h | ⟨o, h⟩) | h
  · exact .inl (.inl (e _ _ h))
  · exact .inl (.inr ⟨o, e _ _ h⟩)
  · exact .inr h

/-! ### readings, step by step -/
section
variable {σ : St} {H : Hp} {Q : VK} {D : Ends} {ta tb te tc : TE} {tt tu : TT} {t u : TS} {x y v : V} {K : PySem.W.Frag}
theorem r_var {i : Nat} (h : σ[i]? = some (some v)) (q : Q v H) : tVar i σ H Q := ⟨v, h, q⟩
theorem r_c (q : Q v H) : tC v σ H Q := q
theorem r_op {r : R2} (h : ta σ H fun x H1 => tb σ H1 fun y H2 => r x y H2 Q) : tOp r ta tb σ H Q := h
theorem r_un {r : V → Hp → VK → Prop} (h : ta σ H fun x H1 => r x H1 Q) : tUn r ta σ H Q := h
theorem r_U {g : Int → V} {i : Int} (q : Q (g i) H) : rU g (.int i) H Q := ⟨i, rfl, q⟩
theorem r_I0 {g : Int → Int → V} {i j : Int} (q : Q (g i j) H) : rI0 g (.int i) (.int j) H Q := ⟨i, j, rfl, rfl, q⟩
theorem r_I {C : Int → Int → Prop} {g : Int → Int → V} {i j : Int} (c : C i j) (q : Q (g i j) H) : rI C g (.int i) (.int j) H Q := ⟨i, j, rfl, rfl, c, q⟩
theorem r_test {Q : Bool → Hp → Prop} (h : te σ H fun x H1 => ∃ k, x = .bl k ∧ Q k H1) : tTest te σ H Q := h
theorem r_B {Q : Bool → Hp → Prop} (h : te σ H fun x H1 => ∃ k, x = .bl k ∧ Q k H1) : tB te σ H Q := h
theorem r_bl {P : Bool → Prop} {b : Bool} (h : P b) : ∃ k, V.bl b = V.bl k ∧ P k := ⟨b, rfl, h⟩
theorem r_not {Q : Bool → Hp → Prop} (h : tt σ H fun c H1 => Q (!c) H1) : tNot tt σ H Q := h
theorem r_and {Q : Bool → Hp → Prop} (h : tt σ H fun c H1 => if c = true then tu σ H1 Q else Q false H1) : tAnd tt tu σ H Q := h
theorem r_or {Q : Bool → Hp → Prop} (h : tt σ H fun c H1 => if c = true then Q true H1 else tu σ H1 Q) : tOr tt tu σ H Q := h
theorem r_andV (h : ta σ H fun x H1 => ∃ c, x = .bl c ∧ if c = true then tb σ H1 Q else Q (.bl false) H1) : tAndV ta tb σ H Q := h
theorem r_orV (h : ta σ H fun x H1 => ∃ c, x = .bl c ∧ if c = true then Q (.bl true) H1 else tb σ H1 Q) : tOrV ta tb σ H Q := h
theorem r_notV (h : ta σ H fun x H1 => ∃ c, x = .bl c ∧ Q (.bl (!c)) H1) : tNotV ta σ H Q := h
theorem r_if (h : tt σ H fun c H1 => if c = true then ta σ H1 Q else tb σ H1 Q) : tIf tt ta tb σ H Q := h
theorem r_chain {r r' : R2} (h : ta σ H fun x H1 => tb σ H1 fun y H2 => r x y H2 fun z H3 => ∃ k, z = .bl k ∧ (if k = true then tc σ H3 fun w' H4 => r' y w' H4 Q else Q (.bl false) H3)) : tChain r r' ta tb tc σ H Q := h
theorem r_T {A B : Prop} {b : Bool} (e : b = true) (h : A) : if b = true then A else B := by
  rw [if_pos e]; exact h
theorem r_F {A B : Prop} {b : Bool} (e : b = false) (h : B) : if b = true then A else B := by
  rw [if_neg (by rw [e]; decide)]; exact h
theorem r_D {A B p : Prop} [Decidable p] (h1 : p → A) (h2 : ¬ p → B) : if decide p = true then A else B := by
  by_cases c : p
  · exact r_T (decide_eq_true c) (h1 c)
  · exact r_F (decide_eq_false c) (h2 c)
theorem r_ND {A B p : Prop} [Decidable p] (h1 : ¬ p → A) (h2 : p → B) : if (!decide p) = true then A else B := by
  by_cases c : p
  · exact r_F (by rw [decide_eq_true c]; rfl) (h2 c)
  · exact r_T (by rw [decide_eq_false c]; rfl) (h1 c)
theorem r_C {A B : Prop} {b : Bool} (h1 : b = true → A) (h2 : b = false → B) : if b = true then A else B := by
  cases b with
  | true => exact r_T rfl (h1 rfl)
  | false => exact r_F rfl (h2 rfl)
theorem r_truB {P : Bool → Prop} {b : Bool} (h : P b) : ∃ k, TruV K (.bl b) H k ∧ P k := ⟨b, rfl, h⟩
theorem r_eq (s : scal x y = true) (q : Q (.bl (decide (x = y))) H) : rEq x y H Q := ⟨s, q⟩
theorem r_ne (s : scal x y = true) (q : Q (.bl (!decide (x = y))) H) : rNe x y H Q := ⟨s, q⟩
/-! statements -/
theorem r_seq (h : t { D with nx := u D } σ H) : tSeq t u D σ H := h
theorem r_next (h : D.nx σ H) : tNext D σ H := h
theorem r_brk (h : D.bk σ H) : tBreak D σ H := h
theorem r_cont (h : D.ct σ H) : tCont D σ H := h
theorem r_ret (h : te σ H D.rt) : tRet te D σ H := h
theorem r_drop (h : te σ H fun _ H1 => D.nx σ H1) : tDrop te D σ H := h
theorem r_set {i : Nat} (h : te σ H fun v H1 => D.nx (σ.set i (some v)) H1) : tAsg te (gName i) D σ H := h
theorem r_asg {g : TG} (h : te σ H fun x H1 => g x σ H1 D.nx) : tAsg te g D σ H := h
theorem r_gname {i : Nat} {Q : St → Hp → Prop} (h : Q (σ.set i (some v)) H) : gName i v σ H Q := h
theorem r_gtup {n : Nat} {tg : TGs} {a : Addr} {xs : List V} {Q : St → Hp → Prop} (ha : SqT K H a xs) (hn : xs.length = n) (h : tg xs σ H Q) : gTup K n tg (.ref a) σ H Q := ⟨a, xs, rfl, ha, hn, h⟩
theorem r_gcons {g : TG} {tg : TGs} {vs : List V} {Q : St → Hp → Prop} (h : g v σ H fun σ' H' => tg vs σ' H' Q) : gCons g tg (v :: vs) σ H Q := ⟨v, vs, rfl, h⟩
theorem r_gnil {Q : St → Hp → Prop} (h : Q σ H) : gNil [] σ H Q := ⟨rfl, h⟩
theorem r_ifS (h : tt σ H fun b H1 => if b = true then t D σ H1 else u D σ H1) : tIfS tt t u D σ H := h
theorem r_aug {i : Nat} {ti : TIp} (h : σ[i]? = some (some x)) (q : te σ H fun y H1 => ti x y H1 fun z H2 => D.nx (σ.set i (some z)) H2) : tAug i te ti D σ H := ⟨x, h, q⟩
theorem r_ipI {f : Int → Int → Int} {i j : Int} (q : Q (.int (f i j)) H) : ipI f (.int i) (.int j) H Q := ⟨i, j, rfl, rfl, q⟩
/-! arguments, displays, calls -/
theorem r_nil {Q : List V → Hp → Prop} (q : Q [] H) : tNil σ H Q := q
theorem r_cons {tr : TA} {Q : List V → Hp → Prop} (h : ta σ H fun x H1 => tr σ H1 fun xs H2 => Q (x :: xs) H2) : tCons ta tr σ H Q := h
theorem r_tup {tr : TA} (h : tr σ H fun xs H1 => xs.length ≤ sizeLine ∧ ∀ p, H1 p = none → Q (.ref p) (upd H1 p (.tup xs))) : tTup tr σ H Q := h
theorem r_lst {tr : TA} (h : tr σ H fun xs H1 => xs.length ≤ sizeLine ∧ ∀ p, H1 p = none → Q (.ref p) (upd H1 p (.lst xs))) : tLst tr σ H Q := h
theorem r_call {sp : Sp} {E : XK} {tr : TA} (h : tr σ H fun vs H1 => sp vs H1 Q E) : tCall sp [] E tr σ H Q := by
  have e : (fun (vs : List V) (H1 : Hp) => sp (vs ++ []) H1 Q E) = fun vs H1 => sp vs H1 Q E := by
    funext vs H1
    rw [List.append_nil]
  show tr σ H (fun (vs : List V) (H1 : Hp) => sp (vs ++ []) H1 Q E)
  rw [e]
  exact h
theorem r_callB {r : List V → Hp → VK → Prop} {tr : TA} (h : tr σ H fun vs H1 => r vs H1 Q) : tCB r tr σ H Q := h
theorem r_fld {f : Str} (h : ta σ H fun x H1 => ∃ a C dx fs v, x = .ref a ∧ H1 a = some (.ins C dx fs) ∧ Cls K C ∧ NoAttr K C f ∧ fs.lookup f = some v ∧ Q v H1) : tFld K ta f σ H Q := h
end

/-! ### kinds of values -/
/-- the types that may be asked of -/
def tyNames : List String := ["NoneType", "bool", "int", "str", "list", "tuple", "dict"]
def IsTy (K : PySem.W.Frag) (H : Hp) (v : V) (T : String) : Prop := TyX K H v (.type T) ∧ T ∈ tyNames
section
variable {K : PySem.W.Frag} {H H' : Hp} {Q : VK} {v : V} {T : String} {a : Addr}
theorem IsTy.non : IsTy K H .non "NoneType" := ⟨.base .non, by decide⟩
theorem IsTy.bl (b : Bool) : IsTy K H (.bl b) "bool" := ⟨.base (.bl b), by decide⟩
theorem IsTy.int (i : Int) : IsTy K H (.int i) "int" := ⟨.base (.int i), by decide⟩
theorem IsTy.str (x : Str) : IsTy K H (.str x) "str" := ⟨.base (.str x), by decide⟩
theorem IsTy.lst {xs : List V} (h : H a = some (.lst xs)) : IsTy K H (.ref a) "list" := ⟨.base (.lst h), by decide⟩
theorem IsTy.tup {xs : List V} (h : H a = some (.tup xs)) : IsTy K H (.ref a) "tuple" := ⟨.base (.tup h), by decide⟩
theorem IsTy.dK {kvs : List (Key × V)} (h : H a = some (.dK kvs)) : IsTy K H (.ref a) "dict" := ⟨.base (.dK h), by decide⟩
theorem IsTy.sqT {xs : List V} (h : SqT K H a xs) : IsTy K H (.ref a) "tuple" := by
  rcases h with (h | ⟨o, h⟩) | ⟨o, its, n, h, c, _⟩
  · exact .tup h
  · exact ⟨.fTuple h, by decide⟩
  · exact ⟨.kTuple h c, by decide⟩
def isIntV : V → Bool
  | .int _ => true
  | _ => false
def isBlV : V → Bool
  | .bl _ => true
  | _ => false
def isStrV : V → Bool
  | .str _ => true
  | _ => false
theorem r_isi {c : String} {b : Bool} (ty : IsTy K H v T) (e : kitB T c = some b) (q : Q (.bl b) H) : rIsi K [v, .ty c] H Q :=
  ⟨v, .ty c, .type T, .type c, b, rfl, .ty c, ty.1, kit_ty e, q⟩
theorem IsTy.cases (h : IsTy K H v T) : (v = .non ∧ T = "NoneType") ∨ (∃ b, v = .bl b ∧ T = "bool") ∨ (∃ i, v = .int i ∧ T = "int") ∨ (∃ x, v = .str x ∧ T = "str") ∨ (∃ a, v = .ref a ∧ T ∈ ["list", "tuple", "dict"]) := by
  obtain ⟨h, m⟩ := h
  generalize ht : Value.type T = t at h
  cases h with
  | base b =>
    cases b with
    | non => cases ht; exact .inl ⟨rfl, rfl⟩
    | bl b => cases ht; exact .inr (.inl ⟨b, rfl, rfl⟩)
    | int i => cases ht; exact .inr (.inr (.inl ⟨i, rfl, rfl⟩))
    | str x => cases ht; exact .inr (.inr (.inr (.inl ⟨x, rfl, rfl⟩)))
    | flt x => cases ht; exact absurd m (by decide)
    | lst e => cases ht; exact .inr (.inr (.inr (.inr ⟨_, rfl, by decide⟩)))
    | frz e => cases ht; exact .inr (.inr (.inr (.inr ⟨_, rfl, by decide⟩)))
    | tup e => cases ht; exact .inr (.inr (.inr (.inr ⟨_, rfl, by decide⟩)))
    | dK e => cases ht; exact .inr (.inr (.inr (.inr ⟨_, rfl, by decide⟩)))
    | dT e => cases ht; exact .inr (.inr (.inr (.inr ⟨_, rfl, by decide⟩)))
    | ins => cases ht
  | byt b => cases ht; exact absurd m (by decide)
  | set e => cases ht; exact absurd m (by decide)
  | kList e c => cases ht; exact .inr (.inr (.inr (.inr ⟨_, rfl, by decide⟩)))
  | kTuple e c => cases ht; exact .inr (.inr (.inr (.inr ⟨_, rfl, by decide⟩)))
  | kDict e c => cases ht; exact .inr (.inr (.inr (.inr ⟨_, rfl, by decide⟩)))
  | fTuple e => cases ht; exact .inr (.inr (.inr (.inr ⟨_, rfl, by decide⟩)))
  | fDict e => cases ht; exact .inr (.inr (.inr (.inr ⟨_, rfl, by decide⟩)))
end

/-! ### a def, by its name -/
/-- the def of this name keeps this promise -/
def Cal (P : Program) (w : World) (K : PySem.W.Frag) (mg : Str → Option Value) (base : Heap) (k : Nat) (x : Str) (ps : List Str) (sp : Sp) : Prop :=
  ∃ f fd, mg x = some (.ref f) ∧ PySem.W.keepIn K (.ref f) = true ∧ FnOk P w K mg base (L2.CX P w) k f fd ps sp ∧ Binds K fd ps []
theorem pe_f {X : Cx} {k j : Nat} {x : Str} {ps : List Str} {sp : Sp} {E : XK} {p pos : Pos} {e : Expr} {es : List Expr} {t : TA} (c : Cal X.prog X.w X.K X.mg X.base k x ps sp) (hr : Room j X.A) (hk : k ≤ j) (hx : Passes (L2.CX X.prog X.w) X E) (ha : PA X (e :: es) t)
    (hg : Gl X x := by rfl) (hdb : (x == ("__debug__" : Str)) = false := by decide) (he : starEach (e :: es) X.env = (false, eval e X.env) :: starEach es X.env := by rfl) (hpl : (backTo pos (starEach es X.env)).any (·.1) = false := by rfl) :
    PE X (.Call (.Name x p) (e :: es) [] pos) (tCall sp [] E t) := by
  obtain ⟨f, fd, h1, h2, F, b⟩ := c
  exact pe_call F (hr.mono hk) hg h1 h2 b .nil hx ha hdb he hpl
/-- a built-in type by its name, as a value -/
theorem pe_ty {X : Cx} (n : String) {x : Str} {pos : Pos} (hm : X.mg x = none) (hv : bootBuiltins x = some (.type n) := by decide +kernel) (hg : Gl X x := by rfl) (hn : x ≠ "__name__" := by decide) (hd : (x == ("__debug__" : Str)) = false := by decide) : PE X (.Name x pos) (tC (.ty n)) :=
  pe_bltn hg hm hv rfl hn hd
/-- a module's int -/
theorem pe_gi {X : Cx} {x : Str} {i : Int} {pos : Pos} (hm : ∃ t, X.mg x = some (.int i t)) (hg : Gl X x := by rfl) (hd : (x == ("__debug__" : Str)) = false := by decide) : PE X (.Name x pos) (tC (.int i)) := by
  obtain ⟨t, h⟩ := hm
  exact pe_glob hg h ⟨t, rfl⟩ hd
/-- a built-in function called -/
theorem pe_bi {X : Cx} {x : Str} {id : String} {r : List V → Hp → VK → Prop} {p pos : Pos} {e : Expr} {es : List Expr} {t : TA} (hc : CallR X (.builtin id) r) (hm : X.mg x = none) (hv : bootBuiltins x = some (.builtin id)) (ha : PA X (e :: es) t) (hg : Gl X x := by rfl)
    (hn : x ≠ "__name__" := by decide) (hdb : (x == ("__debug__" : Str)) = false := by decide) (he : starEach (e :: es) X.env = (false, eval e X.env) :: starEach es X.env := by rfl) (hpl : (backTo pos (starEach es X.env)).any (·.1) = false := by rfl) :
    PE X (.Call (.Name x p) (e :: es) [] pos) (tCB r t) := pe_callB hc hg hm hv ha hn hdb he hpl
/-- a built-in class called -/
theorem pe_bt {X : Cx} {x : Str} {T : String} {r : List V → Hp → VK → Prop} {p pos : Pos} {e : Expr} {es : List Expr} {t : TA} (hc : CallR X (.type T) r) (hm : X.mg x = none) (hv : bootBuiltins x = some (.type T)) (ha : PA X (e :: es) t) (hg : Gl X x := by rfl)
    (hn : x ≠ "__name__" := by decide) (hdb : (x == ("__debug__" : Str)) = false := by decide) (he : starEach (e :: es) X.env = (false, eval e X.env) :: starEach es X.env := by rfl) (hpl : (backTo pos (starEach es X.env)).any (·.1) = false := by rfl) :
    PE X (.Call (.Name x p) (e :: es) [] pos) (tCB r t) := pe_callTy hc hg hm hv ha hn hdb he hpl
/-- what the top has left -/
structure Ct (fa : List He.Fa) (fn : List He.DefD) (K : PySem.W.Frag) (mg : Str → Option Value) (base : Heap) : Prop where
  says : He.SaysD fa fn K
  kin : K.In base
  glob : base.Ns mainGlobals mg
section
variable {P : Program} {w : World} {fa : List He.Fa} {fn : List He.DefD} {K : PySem.W.Frag} {mg : Str → Option Value} {base : Heap}
theorem Ct.free (C : Ct fa fn K mg base) (i : Nat) {x : Str} (h : fa[i]? = some (.free x) := by rfl) : mg x = none := He.free_ok C.kin C.glob (C.says.fact i h)
theorem Ct.int (C : Ct fa fn K mg base) (i : Nat) {x : Str} {n : Int} (h : fa[i]? = some (.int x n) := by rfl) : ∃ t, mg x = some (.int n t) := He.int_ok C.kin C.glob (C.says.fact i h)
theorem Ct.cal (C : Ct fa fn K mg base) (i j : Nat) {x : Str} {a : Arguments} {b : List Stmt} {sc : Scope} (hd : fn[i]? = some ⟨(x, none), x, x, a, b, sc, [], []⟩) (hj : fa[j]? = some (.glo x)) {N ps : List Str} {k : Nat} {sp : Sp} (S : FnScope N ps sc)
    (hb : ∀ (kV doc pm : Value) (an : Option Addr) (cdv ct : Value) (us : List Value), us.length = ps.length → bindArgs (PySem.W.fnOf x x a b sc .none kV doc pm an cdv ct) ⟨us, []⟩ = pure (ps.zip us))
    (len : ∀ vs H Q E, sp vs H Q E → vs.length = ps.length)
    (hbody : ∀ (f : Addr) (cdv : Value) (A : Around) (outer : List Env) (s : Shared) (H : Hp) (vs : List V) (Q : VK) (E : XK), Room k (A.deeper (envOfC x sc s.heap.objs.size f cdv)) → sp vs H Q E →
      ∃ t, PSs (cxOf (L2.CX P w) P w K mg base N x sc f cdv A outer s H E) b t ∧ t { nx := fun _ H' => Q .non H', rt := Q } (start N vs) H) : Cal P w K mg base (k + 1) x ps sp := by
  obtain ⟨fd, F⟩ := C.says.def_ i hd
  exact ⟨_, fd, He.glo_ok C.kin C.glob (C.says.fact j hj), F.kp, FunD.ok F S len fun cdv A outer s H vs Q E hr h => hbody _ cdv A outer s H vs Q E hr h, FunD.bindsN F hb⟩
end
end PB

/-! PR: more rules by values: any kind of operand, tuples where the layer has lists. -/
namespace PB
open PySem PySem.Spec L2
open PyProof.Rows hiding St
section
variable {X : Cx}
/-! ### comparisons -/
def rCmpD (K : PySem.W.Frag) (f : PyData → PyData → Bool) : R2 := fun x y H Q => ∃ d e, Dp K H x d ∧ Dp K H y e ∧ PySem.W.alike d e = true ∧ d ≠ .none ∧ min d.depth e.depth ≤ 60 ∧ Q (.bl (f d e)) H
theorem cmpD {op : CmpOp} {f : PyData → PyData → Bool} (hu : X.A.units + 64 < cLine)
    (rule : ∀ {s : Shared} {a b : Value} {da db : PyData} {as bs : List Addr} {Q : Value → Shared → Prop}, Reads s.heap a da as → Reads s.heap b db bs → PySem.W.alike da db = true → da ≠ .none → X.A.units + min da.depth db.depth < cLine → Q (.bool (f da db)) s → wpAny (model X.prog X.w) X.A (compareOp op a b) Q X.xe s) :
    OpR X (compareOp op) (rCmpD X.K f) := by
  intro pins s σ H x y v u Q I rx ry h
  obtain ⟨d, e, hd, he, al, nn, dp, q⟩ := h
  obtain ⟨as, r1⟩ := Dp.reads I d x v hd rx
  obtain ⟨bs, r2⟩ := Dp.reads I e y u he ry
  exact rule r1 r2 al nn (by omega) ⟨.bl _, H, I, rfl, q⟩
def rCmpA (K : PySem.W.Frag) (g : Int → Int → Bool) (f : PyData → PyData → Bool) : R2 := fun x y H Q => rI0 (fun i j => .bl (g i j)) x y H Q ∨ rCmpD K f x y H Q
theorem op_ltA' (hu : X.A.units + 64 < cLine) : OpR X (compareOp .Lt) (rCmpA X.K (fun i j => decide (i < j)) fun d e => PySem.W.dataLt d e) := OpR.or op_lt (cmpD hu PySem.W.lt_data)
theorem op_gtA' (hu : X.A.units + 64 < cLine) : OpR X (compareOp .Gt) (rCmpA X.K (fun i j => decide (j < i)) fun d e => PySem.W.dataLt e d) := OpR.or op_gt (cmpD hu PySem.W.gt_data)
theorem op_leA' (hu : X.A.units + 64 < cLine) : OpR X (compareOp .LtE) (rCmpA X.K (fun i j => decide (i ≤ j)) fun d e => !PySem.W.dataLt e d) := OpR.or op_le (cmpD hu PySem.W.le_data)
theorem op_geA' (hu : X.A.units + 64 < cLine) : OpR X (compareOp .GtE) (rCmpA X.K (fun i j => decide (j ≤ i)) fun d e => !PySem.W.dataLt d e) := OpR.or op_ge (cmpD hu PySem.W.ge_data)
/-- room for 64 units -/
theorem un64 {k : Nat} {A : Around} (hr : Room k A) : A.units + 64 < cLine := by
  have := hr.un
  omega
theorem op_ltA {k : Nat} (hr : Room k X.A) : OpR X (compareOp .Lt) (rCmpA X.K (fun i j => decide (i < j)) fun d e => PySem.W.dataLt d e) := op_ltA' (un64 hr)
theorem op_gtA {k : Nat} (hr : Room k X.A) : OpR X (compareOp .Gt) (rCmpA X.K (fun i j => decide (j < i)) fun d e => PySem.W.dataLt e d) := op_gtA' (un64 hr)
theorem op_leA {k : Nat} (hr : Room k X.A) : OpR X (compareOp .LtE) (rCmpA X.K (fun i j => decide (i ≤ j)) fun d e => !PySem.W.dataLt e d) := op_leA' (un64 hr)
theorem op_geA {k : Nat} (hr : Room k X.A) : OpR X (compareOp .GtE) (rCmpA X.K (fun i j => decide (j ≤ i)) fun d e => !PySem.W.dataLt d e) := op_geA' (un64 hr)
def rEqA (K : PySem.W.Frag) : R2 := fun x y H Q => rEq x y H Q ∨ rEqD K x y H Q
def rNeA (K : PySem.W.Frag) : R2 := fun x y H Q => rNe x y H Q ∨ rNeD K x y H Q
theorem op_eqA {k : Nat} (hr : Room k X.A) : OpR X (compareOp .Eq) (rEqA X.K) := OpR.or op_eq (op_eqD (un64 hr))
theorem op_neA {k : Nat} (hr : Room k X.A) : OpR X (compareOp .NotEq) (rNeA X.K) := OpR.or op_ne (op_neD (un64 hr))
def rInA (K : PySem.W.Frag) : R2 := fun x y H Q => rIn K false x y H Q ∨ rInD K x y H Q
def rNinA (K : PySem.W.Frag) : R2 := fun x y H Q => rIn K true x y H Q ∨ rNotInD K x y H Q
theorem op_inA {k : Nat} (hr : Room k X.A) : OpR X (compareOp .In) (rInA X.K) := OpR.or op_in_seq (op_inD (by have := hr.un; omega))
theorem op_ninA {k : Nat} (hr : Room k X.A) : OpR X (compareOp .NotIn) (rNinA X.K) := OpR.or op_notIn_seq (op_notInD (by have := hr.un; omega))

/-! ### sums, joins -/
def rAddA (K : PySem.W.Frag) : R2 := fun x y H Q => rI0 (fun i j => .int (i + j)) x y H Q ∨ rCat x y H Q ∨ rCatA K x y H Q ∨ ∃ i j, x = .str i ∧ y = .str j ∧ i.length + j.length ≤ sizeLine ∧ Q (.str (i ++ j)) H
theorem op_addA : OpR X (binaryOp .Add) (rAddA X.K) := OpR.or op_add (OpR.or op_cat (OpR.or op_catA op_add_str))
def rMulA (K : PySem.W.Frag) : R2 := fun x y H Q => rI CMul (fun i j => .int (i * j)) x y H Q ∨ rRep x y H Q ∨ rRepT K x y H Q
theorem op_mulA : OpR X (binaryOp .Mult) (rMulA X.K) := OpR.or op_mul (OpR.or op_rep op_repT)

/-! ### built-in functions on lists and tuples -/
def rSumT (K : PySem.W.Frag) : List V → Hp → VK → Prop := fun vs H Q => ∃ (a : Addr) (ns : List Int), vs = [V.ref a] ∧ SqT K H a (ns.map V.int) ∧ Q (.int ns.sum) H
theorem cr_sumT (hc : X.calm = true) : CallR X (.builtin "sum") (rSumT X.K) := by
  intro pins s σ H vs us Q I r h
  obtain ⟨a, ns, rfl, ht, q⟩ := h
  obtain ⟨its, rv, ⟨o, e, c, n, d⟩, _⟩ := I.tuple ht
  rw [Vals.ref1 r]
  have hi := rv.ints
  obtain ⟨xs, ex⟩ := hi.allInts.items
  have hn : numsOf (intItems xs).toList = ns := by rw [← ex]; exact hi.numsOf
  rw [nums_intItems] at hn
  have hT : s.heap.IsTuple a (intItems xs) := by rw [← ex]; exact ⟨o, e, c, n, d⟩
  refine PySem.W.ktm_sumG (I.ok.hd hc) hT fun h' tk t' hk => ?_
  rw [preSum_eq, List.take_of_length_le (by simp), hn]
  exact ⟨.int ns.sum, H, I.kept hk, ⟨t', rfl⟩, q⟩
def rSumA (K : PySem.W.Frag) : List V → Hp → VK → Prop := fun vs H Q => rSum K vs H Q ∨ rSumT K vs H Q
theorem cr_sumA (hc : X.calm = true) : CallR X (.builtin "sum") (rSumA X.K) := CallR.or (cr_sum hc) (cr_sumT hc)
def rSortedTI (K : PySem.W.Frag) : List V → Hp → VK → Prop := fun vs H Q => ∃ (a : Addr) (ns : List Int), vs = [V.ref a] ∧ SqT K H a (ns.map V.int) ∧
  ∀ (ns' : List Int) (p : Addr), ns'.Perm ns → ns'.Pairwise (· ≤ ·) → H p = none → Q (.ref p) (upd H p (.lst (ns'.map V.int)))
theorem cr_sortedTI : CallR X (.builtin "sorted") (rSortedTI X.K) := by
  intro pins s σ H vs us Q I r h
  obtain ⟨a, ns, rfl, ht, q⟩ := h
  obtain ⟨its, rv, ⟨o, e, c, n, d⟩, hz⟩ := I.tuple ht
  have hlen := rv.length
  rw [Vals.ref1 r]
  have hi := rv.ints
  refine Calls.call_function_entry PyProof.Rows.kind_sorted PyProof.Rows.plain_sorted PyProof.Rows.entry_sorted (PyProof.Rows.args_sorted1 _) ?_
  unfold Builtin.«sorted»
  refine wpAny_bind (wpAny_pure ?_)
  refine wpAny_bind (wpAny_collect_seq a (.inr rfl) e c d (fun h1 k1 => ?_) (by rw [List.size_toArray, ← hlen]; exact hz))
  refine wpAny_bind (wpAny_newList ?_ (by show its.length ≤ sizeLine; rw [← hlen]; exact hz))
  have e1 : (h1.push { cls := .type "list", data := .seq its.toArray }).get? h1.objs.size = some (PyProof.Rows.seqObj "list" its.toArray 0) := Heap.get?_push_size _ rfl
  refine wpAny_bind (wpAny_holding (wpAny_call_entry PyProof.Rows.slot_list_sort ⟨_, e1, rfl⟩ PyProof.Rows.entry_list_sort
    (SrtO.list_sort_ord SrtO.swo_int e1 (by rw [← hlen]; exact hz) (fun h2 => SrtO.ints_sortable hi h2) fun out g1 g2 => ⟨_, rfl, ?_⟩) (PyProof.Rows.args_list_sort _)))
  obtain ⟨k3, k4, k5⟩ := SrtO.ints_out hi g1 g2
  obtain ⟨ep, he⟩ := PyProof.Rows.sortedHeap_at (vs := its) (out := out.toArray) e1
  have I1 : Inv X pins σ H { s with heap := h1 } := I.kept (t' := s.toks) k1
  have old : ∀ b u, h1.get? b = some u → (PyProof.Rows.sortedHeap (h1.push { cls := .type "list", data := .seq its.toArray }) h1.objs.size its out.toArray).get? b = some u := fun b u eb => by
    have lt := Heap.lt_size eb
    rw [PyProof.Rows.sortedHeap_old (Nat.ne_of_lt lt) (by rw [Heap.size_push]; exact Nat.lt_succ_of_lt lt)]
    exact Heap.get?_push_of_some _ eb
  have hl2 : ((out.map SrtO.iv).map V.int).length ≤ sizeLine := by
    rw [List.length_map, k4.length_eq]
    rw [List.length_map] at hz
    exact hz
  exact wpAny_pure ⟨_, rfl, ⟨.ref _, upd H h1.objs.size (.lst ((out.map SrtO.iv).map V.int)), I1.laid (t' := s.toks) old (Nat.le_refl _) ⟨hl2, out, ep, vals_of_ints k3, he⟩, rfl, q _ _ k4 k5 (I1.hok.fresh (Nat.le_refl _))⟩⟩
/-! ### targets of two, of three names -/
theorem pg_two {i j kk : Nat} {x y : Str} {px py pos : Pos} (hc : X.calm = true) (hN : X.N.Nodup) (hi : X.N[i]? = some x) (hj : X.N[j]? = some y) (lx : Loc X.env.scope x) (ly : Loc X.env.scope y)
    (fx : X.fn x = true ∨ X.env.scope.names.lookup x = some .local) (fy : X.fn y = true ∨ X.env.scope.names.lookup y = some .local) : PG X (.Tuple [.Name x px, .Name y py] kk pos) (gTup X.K 2 (gCons (gName i) (gCons (gName j) gNil))) :=
  pg_tup hc (pgs_cons (pg_name hN hi lx fx) (pgs_cons (pg_name hN hj ly fy) pgs_nil))
theorem pg_three {i j l kk : Nat} {x y z : Str} {px py pz pos : Pos} (hc : X.calm = true) (hN : X.N.Nodup) (hi : X.N[i]? = some x) (hj : X.N[j]? = some y) (hl : X.N[l]? = some z) (lx : Loc X.env.scope x) (ly : Loc X.env.scope y) (lz : Loc X.env.scope z)
    (fx : X.fn x = true ∨ X.env.scope.names.lookup x = some .local) (fy : X.fn y = true ∨ X.env.scope.names.lookup y = some .local) (fz : X.fn z = true ∨ X.env.scope.names.lookup z = some .local) : PG X (.Tuple [.Name x px, .Name y py, .Name z pz] kk pos) (gTup X.K 3 (gCons (gName i) (gCons (gName j) (gCons (gName l) gNil)))) :=
  pg_tup hc (pgs_cons (pg_name hN hi lx fx) (pgs_cons (pg_name hN hj ly fy) (pgs_cons (pg_name hN hl lz fz) pgs_nil)))
/-! ### built-in calls under names of their own -/
def rLenA (K : PySem.W.Frag) : List V → Hp → VK → Prop := fun xs H Q => ∃ x n, xs = [x] ∧ LenV K x H n ∧ Q (.int n) H
theorem cr_len : CallR X (.builtin "len") (rLenA X.K) := call_len
def rMax2A : List V → Hp → VK → Prop := fun xs H Q => ∃ i j, xs = [.int i, .int j] ∧ Q (.int (if j > i then j else i)) H
theorem cr_max2 (hc : X.calm = true) : CallR X (.builtin "max") rMax2A := call_max2 hc
def rMin2A : List V → Hp → VK → Prop := fun xs H Q => ∃ i j, xs = [.int i, .int j] ∧ Q (.int (if j < i then j else i)) H
theorem cr_min2 (hc : X.calm = true) : CallR X (.builtin "min") rMin2A := call_min2 hc
def rAbsA : List V → Hp → VK → Prop := fun xs H Q => ∃ i, xs = [.int i] ∧ Q (.int (if i < 0 then -i else i)) H
theorem cr_abs : CallR X (.builtin "abs") rAbsA := call_abs
def rInt1A : List V → Hp → VK → Prop := fun xs H Q => (∃ i, xs = [.int i] ∧ Q (.int i) H) ∨ ∃ k, xs = [.bl k] ∧ Q (.int (if k then 1 else 0)) H
theorem cr_int1 : CallR X (.type "int") rInt1A := call_int1
def rTupA (K : PySem.W.Frag) : List V → Hp → VK → Prop := fun xs H Q => ∃ p ys, xs = [.ref p] ∧ ((SqL K H p ys ∧ ∀ l, H l = none → Q (.ref l) (upd H l (.tup ys))) ∨ (SqT K H p ys ∧ Q (.ref p) H))
theorem cr_tuple : CallR X (.type "tuple") (rTupA X.K) := call_tuple_of
def rListA (K : PySem.W.Frag) : List V → Hp → VK → Prop := fun xs H Q => ∃ p ys, xs = [.ref p] ∧ (SqL K H p ys ∨ SqT K H p ys) ∧ ∀ l, H l = none → Q (.ref l) (upd H l (.lst ys))
theorem cr_list : CallR X (.type "list") (rListA X.K) := call_list_of
/-! ### items and cuts -/
def rIxA (K : PySem.W.Frag) : R2 := fun x y H Q => rIxL K x y H Q ∨ rIxT K x y H Q ∨ rIxS x y H Q
theorem ix_A : IxR X (rIxA X.K) := IxR.or ix_list (IxR.or ix_tup ix_str)
def rSortedA (K : PySem.W.Frag) : List V → Hp → VK → Prop := fun vs H Q => rSortedI K vs H Q ∨ rSortedTI K vs H Q
theorem cr_sortedA : CallR X (.builtin "sorted") (rSortedA X.K) := CallR.or cr_sortedI cr_sortedTI
def rSlcA (K : PySem.W.Frag) : V → Option Int → Option Int → Hp → VK → Prop := fun x lo hi H Q => rSlL K x lo hi H Q ∨ rSlA K x lo hi H Q ∨ rSlS x lo hi H Q
theorem sl_A : SlR X (rSlcA X.K) := SlR.or sl_list (SlR.or sl_tupA sl_str)
/-! ### what a for walks -/
/-- a list or a tuple -/
def iSeq (K : PySem.W.Frag) (tl : TE) : TI := fun σ H R => tl σ H fun x H1 => ∃ a xs, x = .ref a ∧ ((SqL K H1 a xs ∧ R (Itl K a) H1) ∨ (SqT K H1 a xs ∧ R (Itt K a) H1))
theorem pi_seq {tg l : Expr} {tl : TE} (hl : PE X l tl) : PI X tg l (iSeq X.K tl) := by
  refine ⟨fun pins s σ H R I h => ?_⟩
  refine thn (hl.run pins s σ H _ I h) fun v s1 ⟨x, H1, I1, r1, a, xs, e, q1⟩ => ?_
  subst e
  obtain rfl : v = Value.ref a := r1
  rcases q1 with ⟨hq, q⟩ | ⟨hq, q⟩
  · obtain ⟨its, rv, p, hz⟩ := I1.list hq
    refine wpAny_pyIter_list p.isList ?_
    refine ⟨s1.heap.objs.size, [s1.heap.objs.size], _, _, H1, rfl, I1.kept (t' := s1.toks) fun b o e => Heap.get?_push_of_some _ e, turn_list a _, ⟨_, Heap.get?_push_size _ rfl, rfl, rfl⟩, fun b hb => ?_, q⟩
    obtain rfl := List.mem_singleton.mp hb
    exact I1.fpOk (Nat.le_refl _) (I1.hok.fresh (Nat.le_refl _))
  · obtain ⟨its, rv, p, hz⟩ := I1.tuple hq
    refine wpAny_pyIter_tuple (show s1.heap.IsTuple a its.toArray from p) ?_
    refine ⟨s1.heap.objs.size, [s1.heap.objs.size], _, _, H1, rfl, I1.kept (t' := s1.toks) fun b o e => Heap.get?_push_of_some _ e, turn_tuple a _, ⟨_, Heap.get?_push_size _ rfl, rfl, rfl⟩, fun b hb => ?_, q⟩
    obtain rfl := List.mem_singleton.mp hb
    exact I1.fpOk (Nat.le_refl _) (I1.hok.fresh (Nat.le_refl _))
end
end PB

/-! PZ: zip and enumerate over lists and tuples in any mix. -/
namespace PB
open PySem PySem.Spec L2
open PyProof.Rows hiding St
/-- a list, a tuple -/
inductive Sk where
  | l | t
def Sk.at : Sk → PySem.W.Frag → Hp → Addr → List V → Prop
  | .l, K, H, a, xs => SqL K H a xs
  | .t, K, H, a, xs => SqT K H a xs
def Sk.iter : Sk → Heap → Addr → Addr → Nat → Prop
  | .l, h, it, a, i => h.IsListIter it a i
  | .t, h, it, a, i => h.IsTupleIter it a i
def Sk.its : Sk → Heap → Addr → Array Value → Prop
  | .l, h, a, vs => h.IsList a vs
  | .t, h, a, vs => h.IsTuple a vs
def Sk.obj : Sk → Addr → Obj
  | .l, a => { cls := .type "list_iterator", data := .fields #[.ref a, .int 0 0] }
  | .t, a => { cls := .type "tuple_iterator", data := .fields #[.ref a, .int 0 0] }
theorem Sk.draws (k : Sk) {prog : Program} {w : World} {A : Around} (hh : A.handled = none) (it a : Addr) (hne : a ≠ it) (vs : Array Value) :
    Draws prog w A it [it, a] vs.size (fun i v => vs[i]? = some v) (fun i h => k.iter h it a i ∧ k.its h a vs) := by
  cases k with
  | l => exact Draws.list hh it a hne vs
  | t => exact Draws.tuple hh it a hne vs
theorem Sk.begins (k : Sk) (a : Addr) (vs : Array Value) : Begins (.ref a) (k.obj a) fun h => k.its h a vs := by
  cases k with
  | l => exact begins_list a vs
  | t => exact begins_tuple a vs
theorem Sk.start (k : Sk) {h : Heap} {it a : Addr} (e : h.get? it = some (k.obj a)) : k.iter h it a 0 := by
  cases k with
  | l => exact ⟨_, e, rfl, rfl⟩
  | t => exact ⟨_, e, rfl, rfl⟩
theorem Sk.keep (k : Sk) {h h' : Heap} {it a : Addr} {i : Nat} (x : k.iter h it a i) (kp : ∀ o, h.get? it = some o → h'.get? it = some o) : k.iter h' it a i := by
  cases k with
  | l => exact Heap.IsListIter.at x kp
  | t => exact Heap.IsTupleIter.at x kp
theorem Sk.there (k : Sk) {h : Heap} {it a : Addr} {i : Nat} (x : k.iter h it a i) : ∃ o, h.get? it = some o ∧ ∀ v, o.data ≠ .cell v := by
  cases k with
  | l => obtain ⟨o, e, _, d⟩ := x; exact ⟨o, e, fun v q => by rw [d] at q; cases q⟩
  | t => obtain ⟨o, e, _, d⟩ := x; exact ⟨o, e, fun v q => by rw [d] at q; cases q⟩
theorem Sk.inv (k : Sk) {X : Cx} {pins : List (Addr × Obj)} {σ : St} {H : Hp} {s : Shared} {a : Addr} {xs : List V} (I : Inv X pins σ H s) (h : k.at X.K H a xs) :
    ∃ its : List Value, Vals xs its ∧ k.its s.heap a its.toArray ∧ a < s.heap.objs.size := by
  cases k with
  | l => obtain ⟨its, r, p, _⟩ := I.list h; exact ⟨its, r, p.isList, p.lt⟩
  | t => obtain ⟨its, r, p, _⟩ := I.tuple h; exact ⟨its, r, p, p.lt⟩
theorem Sk.inj (k : Sk) {X : Cx} {pins : List (Addr × Obj)} {σ : St} {H : Hp} {s : Shared} {a : Addr} {xs ys : List V} (I : Inv X pins σ H s) (h : k.at X.K H a xs) (h' : k.at X.K H a ys) : xs = ys := by
  cases k with
  | l => exact I.list_inj h h'
  | t => exact I.tuple_inj h h'
/-- the items of two sources in new pairs -/
def ItP (K : PySem.W.Frag) (k1 k2 : Sk) (a b : Addr) : It :=
  ⟨fun i H => ∃ (xs ys : List V) (x y : V), k1.at K H a xs ∧ k2.at K H b ys ∧ xs[i]? = some x ∧ ys[i]? = some y,
    fun i H v H' => ∃ T x y, v = .ref T ∧ H T = none ∧ H' = upd H T (.tup [x, y]) ∧ (∀ xs, k1.at K H a xs → xs[i]? = some x) ∧ ∀ ys, k2.at K H b ys → ys[i]? = some y,
    fun i H => ∃ xs ys : List V, k1.at K H a xs ∧ k2.at K H b ys ∧ i = min xs.length ys.length⟩
theorem get_of {xs : List V} {its : List Value} {i : Nat} {x : V} (r : Vals xs its) (h : xs[i]? = some x) {u : Value} (hu : its.toArray[i]? = some u) : RelV x u := by
  obtain ⟨w, hw, rw'⟩ := r.get h
  have e : its[i]? = some u := by simpa using hu
  rw [hw] at e
  cases e
  exact rw'
theorem turn_pair {P : Program} {w : World} {K : PySem.W.Frag} {elts : List Expr} {kk : Nat} {tpos : Pos} {k1 k2 : Sk} {a b z TI TO i1 i2 : Addr} (S : ZipSep2 z TI TO i1 i2 [i1, a] [i2, b]) (n1 : a ≠ i1) (n2 : b ≠ i2) :
    Turn P w K (.Tuple elts kk tpos) (ItP K k1 k2 a b) [z, TI, TO, i1, i2] z (fun i h => IsZip h z TI TO .none ∧ IsTupOf2 h TI (.ref i1) (.ref i2) ∧ (∃ x y, IsTupOf2 h TO x y) ∧ k1.iter h i1 a i ∧ k2.iter h i2 b i) where
  mem := by simp
  obj := fun i h st c hc => by
    obtain ⟨hz, hTI, ⟨x, y, hTO⟩, h1, h2⟩ := st
    simp only [List.mem_cons, List.not_mem_nil, or_false] at hc
    rcases hc with q | q | q | q | q <;> subst q
    · exact ⟨_, hz, fun v q => nomatch q⟩
    · exact ⟨_, hTI, fun v q => nomatch q⟩
    · exact ⟨_, hTO, fun v q => nomatch q⟩
    · exact k1.there h1
    · exact k2.there h2
  keep := fun i h h' st kp => by
    obtain ⟨hz, hTI, ⟨x, y, hTO⟩, h1, h2⟩ := st
    exact ⟨kp z (by simp) _ hz, kp TI (by simp) _ hTI, ⟨x, y, kp TO (by simp) _ hTO⟩, k1.keep h1 fun o q => kp i1 (by simp) o q, k2.keep h2 fun o q => kp i2 (by simp) o q⟩
  item := by
    intro X hP hw hK hc i pins s σ H E I hf st hg
    subst hP hw hK
    obtain ⟨hz, hTI, hTO, h1, h2⟩ := st
    obtain ⟨xs, ys, x, y, qx, qy, hx, hy⟩ := hg
    obtain ⟨us, r1, p1, _⟩ := k1.inv I qx
    obtain ⟨vs, r2, p2, _⟩ := k2.inv I qy
    have hh : X.A.in1.handled = none := I.ok.hd hc
    have W := GoesN.zip2 (prog := X.prog) (w := X.w) (A := X.A) (elts := elts) (x1 := kk) (pos := tpos) S (k1.draws hh i1 a n1 us.toArray) (k2.draws hh i2 b n2 vs.toArray)
    have l1 : i < us.toArray.size := by
      have := (List.getElem?_eq_some_iff.mp hx).1
      rw [r1.length] at this
      simpa using this
    have l2 : i < vs.toArray.size := by
      have := (List.getElem?_eq_some_iff.mp hy).1
      rw [r2.length] at this
      simpa using this
    refine W.goes i s _ E (Nat.lt_min.mpr ⟨l1, l2⟩) ⟨hz, hTI, hTO, ⟨h1, p1⟩, h2, p2⟩ fun v h' tk hY st' kp _ => ?_
    obtain ⟨T, u, u2, rfl, hT, e1, e2, o, eo, co, no, dO⟩ := hY
    obtain ⟨hz', hTI', hTO', ⟨h1', _⟩, h2', _⟩ := st'
    have new : ObjOk X.prog X.w (upd H T (.tup [x, y])) h' T (.tup [x, y]) :=
      ⟨by show 2 ≤ sizeLine; decide, [u, u2], .cons (get_of r1 hx e1) (.cons (get_of r2 hy e2) .nil), ⟨o, eo, co, no, dO⟩⟩
    have sub : ∀ c, c ∈ [z, TO, i1, i2] → c ∈ [z, TI, TO, i1, i2] := fun c hc => by
      simp only [List.mem_cons, List.not_mem_nil, or_false] at hc ⊢
      rcases hc with q | q | q | q
      · exact .inl q
      · exact .inr (.inr (.inl q))
      · exact .inr (.inr (.inr (.inl q)))
      · exact .inr (.inr (.inr (.inr q)))
    have I1 : Inv X pins σ (upd H T (.tup [x, y])) { s with heap := h', toks := tk } := I.turnedNew (ch := [z, TO, i1, i2]) (fun c o hb q => kp c o hb q) (fun c hc => hf c (sub c hc)) hT new
    refine ⟨.ref T, _, I1, rfl, ⟨T, x, y, rfl, I.hok.fresh hT, rfl, fun l hl => by rw [k1.inj I hl qx]; exact hx, fun l hl => by rw [k2.inj I hl qy]; exact hy⟩, ⟨hz', hTI', hTO', h1', h2'⟩, fun c hc => ?_⟩
    have lt : c < s.heap.objs.size := by
      simp only [List.mem_cons, List.not_mem_nil, or_false] at hc
      rcases hc with q | q | q | q | q <;> subst q
      · exact Heap.lt_size hz
      · exact Heap.lt_size hTI
      · obtain ⟨_, _, e⟩ := hTO; exact Heap.lt_size e
      · obtain ⟨_, e, _⟩ := k1.there h1; exact Heap.lt_size e
      · obtain ⟨_, e, _⟩ := k2.there h2; exact Heap.lt_size e
    rw [upd_ne (Nat.ne_of_lt (Nat.lt_of_lt_of_le lt hT))]
    exact (hf c hc).1
  done := by
    intro X hP hw hK hc i pins s σ H E I hf st hg
    subst hP hw hK
    obtain ⟨hz, hTI, hTO, h1, h2⟩ := st
    obtain ⟨xs, ys, qx, qy, hi⟩ := hg
    obtain ⟨us, r1, p1, _⟩ := k1.inv I qx
    obtain ⟨vs, r2, p2, _⟩ := k2.inv I qy
    have hh : X.A.in1.handled = none := I.ok.hd hc
    have W := GoesN.zip2 (prog := X.prog) (w := X.w) (A := X.A) (elts := elts) (x1 := kk) (pos := tpos) S (k1.draws hh i1 a n1 us.toArray) (k2.draws hh i2 b n2 vs.toArray)
    have en : i = min us.toArray.size vs.toArray.size := by
      rw [List.size_toArray, List.size_toArray, ← r1.length, ← r2.length]
      exact hi
    subst en
    have sub : ∀ c, c ∈ [z, TO, i1, i2] → c ∈ [z, TI, TO, i1, i2] := fun c hc => by
      simp only [List.mem_cons, List.not_mem_nil, or_false] at hc ⊢
      rcases hc with q | q | q | q
      · exact .inl q
      · exact .inr (.inr (.inl q))
      · exact .inr (.inr (.inr (.inl q)))
      · exact .inr (.inr (.inr (.inr q)))
    exact W.stops s _ E ⟨hz, hTI, hTO, ⟨h1, p1⟩, h2, p2⟩ fun h' tk kp _ => I.turnedL (ch := [z, TO, i1, i2]) (fun c o hb q => kp c o hb q) (fun c hc => hf c (sub c hc))
  self := fun A i s Q E st h => wpAny_pyIter_zip st.1 h
def iZipM (K : PySem.W.Frag) (ta : TA) : TI := fun σ H R => ta σ H fun vs H1 => ∃ (k1 k2 : Sk) (a b : Addr) (xs ys : List V), vs = [.ref a, .ref b] ∧ k1.at K H1 a xs ∧ k2.at K H1 b ys ∧ R (ItP K k1 k2 a b) H1
theorem pi_zipM {X : Cx} {e e2 : Expr} {ta : TA} {p pos tpos : Pos} {elts : List Expr} {kk : Nat} (hg : Gl X "zip") (hm : X.mg "zip" = none) (ha : PA X [e, e2] ta)
    (hs : starEach [e, e2] X.env = (false, eval e X.env) :: starEach [e2] X.env := by rfl) (hpl : (backTo pos (starEach [e2] X.env)).any (·.1) = false := by rfl) :
    PI X (.Tuple elts kk tpos) (.Call (.Name "zip" p) [e, e2] [] pos) (iZipM X.K ta) := by
  refine ⟨fun pins s σ H R I h => ?_⟩
  refine Call_ (ld_blt I hg hm PyProof.Rows.boot_zip (PyProof.Rows.callWith_type1 (thn (ha.run pos pins s σ H _ I h) fun us s1 ⟨vs, H1, I1, r1, q1⟩ => ?_) hs hpl))
  obtain ⟨k1, k2, a, b, xs, ys, ex, qx, qy, q⟩ := q1
  subst ex
  obtain ⟨u1, u2, rfl, ra, rb⟩ := vals2 r1
  obtain rfl : u1 = Value.ref a := ra
  obtain rfl : u2 = Value.ref b := rb
  obtain ⟨its, _, p1, la⟩ := k1.inv I1 qx
  obtain ⟨its2, _, p2, lb⟩ := k2.inv I1 qy
  refine zip_begins2 (k1.begins a its.toArray) (k2.begins b its2.toArray) p1 p2 fun h' hz hTI hTO e1 e2 _ hk => wpAny_pyIter_zip hz ?_
  have I2 : Inv X pins σ H1 { s1 with heap := h' } := I1.kept (t' := s1.toks) hk
  have S := zip_sep2 (N := s1.heap.objs.size) (fp1 := [a]) (fp2 := [b]) (fun c hc => by rw [List.mem_singleton.mp hc]; exact la) (fun c hc => by rw [List.mem_singleton.mp hc]; exact lb)
  refine ⟨s1.heap.objs.size + 4, [s1.heap.objs.size + 4, s1.heap.objs.size + 2, s1.heap.objs.size + 3, s1.heap.objs.size, s1.heap.objs.size + 1], _, _, H1, rfl, I2, turn_pair S (Nat.ne_of_lt la) (Nat.ne_of_lt (Nat.lt_succ_of_lt lb)),
    ⟨hz, hTI, ⟨_, _, hTO⟩, k1.start e1, k2.start e2⟩, fun c hc => ?_, q⟩
  have hle : s1.heap.objs.size ≤ c := by
    simp only [List.mem_cons, List.not_mem_nil, or_false] at hc
    rcases hc with z | z | z | z | z <;> rw [z]
    · exact Nat.le_add_right _ _
    · exact Nat.le_add_right _ _
    · exact Nat.le_add_right _ _
    · exact Nat.le_refl _
    · exact Nat.le_add_right _ _
  exact I1.fpOk hle (I1.hok.fresh hle)
end PB

/-! PN: enumerate over a list or a tuple. -/
namespace PB
open PySem PySem.Spec L2
open PyProof.Rows hiding St
set_option maxHeartbeats 8000000 in
theorem enum_new1 {v : Value} {o : Obj} {H : Heap → Prop} (B : Begins v o H) :
    Meets (Builtin.«enumerate.__new__» ⟨[.type "enumerate", v], []⟩) fun _ R s => H s.heap ∧
      R (.ok (.ret (.ref (s.heap.push o).objs.size))) { s with heap := (s.heap.push o).push { cls := .type "enumerate", data := .fields #[.none, .bool false, .ref s.heap.objs.size, rawInt 0, .none, .none] } } :=
  .of_wp fun prog w A R s h => by
    obtain ⟨hp, g, d, tk, os⟩ := s
    obtain ⟨h1, h⟩ := h
    have sb := sub_enumerate
    have q1 : ∀ {A' : Around} {E Q : Value → Shared → Prop}, Q (.ref hp.objs.size) ⟨hp.push o, g, d, tk, os⟩ → wpAny (model prog w) A' (pyIter v) Q E ⟨hp, g, d, tk, os⟩ := fun q => B.iter prog w _ _ ⟨hp, g, d, tk, os⟩ _ h1 q
    wp_walk using q1
    refine wpAny_stack_any fun st => wpAny_pure ?_
    split
    · rename_i c _ _ _ _ _
      cases (c == Value.type "enumerate") <;> (wp_walk using q1; exact ⟨_, rfl, h⟩)
    · wp_walk using q1
      exact ⟨_, rfl, h⟩
theorem enum_begins1 {prog : Program} {w : World} {A : Around} {E Q : Value → Shared → Prop} {s : Shared} {v : Value} {o : Obj} {H : Heap → Prop} (B : Begins v o H) (h1 : H s.heap)
    (h : ∀ h', IsEnum h' (s.heap.objs.size + 1) s.heap.objs.size 0 .none → h'.get? s.heap.objs.size = some o → (∀ b u, s.heap.get? b = some u → h'.get? b = some u) → Q (.ref (s.heap.objs.size + 1)) { s with heap := h' }) :
    wpAny (model prog w) A (call (.type "enumerate") [v]) Q E s := by
  refine callType_new F.called_enumerate (by decide) (F.typeCall_enumerate_1 _) (F.newCall_enumerate_1 _) (fun x => F.args_object_init_2 x _) F.entry_enumerate_new (enum_new1 B) ⟨h1, ?_⟩
  show _ ∧ _
  have hz : (s.heap.push o).objs.size = s.heap.objs.size + 1 := Heap.size_push ..
  rw [hz]
  have he : IsEnum ((s.heap.push o).push { cls := .type "enumerate", data := .fields #[.none, .bool false, .ref s.heap.objs.size, rawInt 0, .none, .none] }) (s.heap.objs.size + 1) s.heap.objs.size 0 .none := by
    rw [← hz]
    exact Heap.get?_push_size (s.heap.push o) rfl
  exact ⟨⟨_, he, rfl⟩, h _ he (Heap.get?_push_of_some _ (Heap.get?_push_size _ B.free)) fun b u x => Heap.get?_push_of_some _ (Heap.get?_push_of_some _ x)⟩
/-- the items of a source, each in a new pair with its index -/
def ItE (K : PySem.W.Frag) (k : Sk) (a : Addr) : It :=
  ⟨fun i H => ∃ (xs : List V) (x : V), k.at K H a xs ∧ xs[i]? = some x,
    fun i H v H' => ∃ T x, v = .ref T ∧ H T = none ∧ H' = upd H T (.tup [.int (i : Nat), x]) ∧ ∀ xs, k.at K H a xs → xs[i]? = some x,
    fun i H => ∃ xs : List V, k.at K H a xs ∧ i = xs.length⟩
theorem turn_num {P : Program} {w : World} {K : PySem.W.Frag} {elts : List Expr} {kk : Nat} {tpos : Pos} {k : Sk} {a e it : Addr} (n1 : a ≠ it) (n2 : e ≠ it) (n3 : e ≠ a) :
    Turn P w K (.Tuple elts kk tpos) (ItE K k a) [e, it] e (fun i h => (∃ old, IsEnum h e it ((0 : Int) + (i : Nat)) old) ∧ k.iter h it a i) where
  mem := by simp
  obj := fun i h st c hc => by
    obtain ⟨⟨old, he⟩, h1⟩ := st
    simp only [List.mem_cons, List.not_mem_nil, or_false] at hc
    rcases hc with q | q <;> subst q
    · exact ⟨_, he, fun v q => nomatch q⟩
    · exact k.there h1
  keep := fun i h h' st kp => by
    obtain ⟨⟨old, he⟩, h1⟩ := st
    exact ⟨⟨old, kp e (by simp) _ he⟩, k.keep h1 fun o q => kp it (by simp) o q⟩
  item := by
    intro X hP hw hK hc i pins s σ H E I hf st hg
    subst hP hw hK
    obtain ⟨he, h1⟩ := st
    obtain ⟨xs, x, qx, hx⟩ := hg
    obtain ⟨us, r1, p1, _⟩ := k.inv I qx
    have hh : X.A.in1.handled = none := I.ok.hd hc
    have W := GoesN.enumFrom (prog := X.prog) (w := X.w) (A := X.A) (elts := elts) (x1 := kk) (pos := tpos) 0 (k.draws hh it a n1 us.toArray) e n2 (by simp [n2, n3]) (by simp)
    have l1 : i < us.toArray.size := by
      have := (List.getElem?_eq_some_iff.mp hx).1
      rw [r1.length] at this
      simpa using this
    refine W.goes i s _ E l1 ⟨he, h1, p1⟩ fun v h' tk hY st' kp _ => ?_
    obtain ⟨T, t, u, rfl, hT, e1, o, eo, co, no, dO⟩ := hY
    obtain ⟨he', h1', _⟩ := st'
    have new : ObjOk X.prog X.w (upd H T (.tup [.int (i : Nat), x])) h' T (.tup [.int (i : Nat), x]) := by
      refine ⟨by show 2 ≤ sizeLine; decide, [.int (0 + (i : Nat)) t, u], .cons ⟨t, ?_⟩ (.cons (get_of r1 hx e1) .nil), ⟨o, eo, co, no, dO⟩⟩
      rw [Int.zero_add]
    have I1 : Inv X pins σ (upd H T (.tup [.int (i : Nat), x])) { s with heap := h', toks := tk } := I.turnedNew (ch := [e, it]) (fun c o hb q => kp c o hb q) hf hT new
    refine ⟨.ref T, _, I1, rfl, ⟨T, x, rfl, I.hok.fresh hT, rfl, fun l hl => by rw [k.inj I hl qx]; exact hx⟩, ⟨he', h1'⟩, fun c hc => ?_⟩
    have lt : c < s.heap.objs.size := by
      simp only [List.mem_cons, List.not_mem_nil, or_false] at hc
      rcases hc with q | q <;> subst q
      · obtain ⟨_, e⟩ := he; exact Heap.lt_size e
      · obtain ⟨_, e, _⟩ := k.there h1; exact Heap.lt_size e
    rw [upd_ne (Nat.ne_of_lt (Nat.lt_of_lt_of_le lt hT))]
    exact (hf c hc).1
  done := by
    intro X hP hw hK hc i pins s σ H E I hf st hg
    subst hP hw hK
    obtain ⟨he, h1⟩ := st
    obtain ⟨xs, qx, hi⟩ := hg
    obtain ⟨us, r1, p1, _⟩ := k.inv I qx
    have hh : X.A.in1.handled = none := I.ok.hd hc
    have W := GoesN.enumFrom (prog := X.prog) (w := X.w) (A := X.A) (elts := elts) (x1 := kk) (pos := tpos) 0 (k.draws hh it a n1 us.toArray) e n2 (by simp [n2, n3]) (by simp)
    have en : i = us.toArray.size := by
      rw [List.size_toArray, ← r1.length]
      exact hi
    subst en
    exact W.stops s _ E ⟨he, h1, p1⟩ fun h' tk kp _ => I.turnedL (ch := [e, it]) (fun c o hb q => kp c o hb q) hf
  self := fun A i s Q E st h => let ⟨⟨_, he⟩, _⟩ := st; wpAny_pyIter_enum he h
def iEnumM (K : PySem.W.Frag) (ta : TA) : TI := fun σ H R => ta σ H fun vs H1 => ∃ (k : Sk) (a : Addr) (xs : List V), vs = [.ref a] ∧ k.at K H1 a xs ∧ R (ItE K k a) H1
theorem pi_enumM {X : Cx} {e : Expr} {ta : TA} {p pos tpos : Pos} {elts : List Expr} {kk : Nat} (cl : X.calm = true) (hm : X.mg "enumerate" = none) (ha : PA X [e] ta) (hg : Gl X "enumerate" := by rfl) (hs : starEach [e] X.env = [(false, eval e X.env)] := by rfl) :
    PI X (.Tuple elts kk tpos) (.Call (.Name "enumerate" p) [e] [] pos) (iEnumM X.K ta) := by
  refine ⟨fun pins s σ H R I h => ?_⟩
  refine Call_ (ld_blt I hg hm boot_enumerate (PyProof.Rows.callWith_type1 (thn (ha.run pos pins s σ H _ I h) fun us s1 ⟨vs, H1, I1, r1, q1⟩ => ?_) hs rfl))
  obtain ⟨k, a, xs, ex, qx, q⟩ := q1
  subst ex
  rw [Vals.ref1 r1]
  obtain ⟨its, _, p1, la⟩ := k.inv I1 qx
  refine enum_begins1 (k.begins a its.toArray) p1 fun h' he e1 hk => wpAny_pyIter_enum he ?_
  have I2 : Inv X pins σ H1 { s1 with heap := h' } := I1.kept (t' := s1.toks) hk
  refine ⟨s1.heap.objs.size + 1, [s1.heap.objs.size + 1, s1.heap.objs.size], _, _, H1, rfl, I2, turn_num (Nat.ne_of_lt la) (Nat.succ_ne_self _) (Nat.ne_of_gt (Nat.lt_succ_of_lt la)), ⟨⟨.none, he⟩, k.start e1⟩, fun c hc => ?_, q⟩
  have hle : s1.heap.objs.size ≤ c := by
    simp only [List.mem_cons, List.not_mem_nil, or_false] at hc
    rcases hc with z | z <;> rw [z]
    · exact Nat.le_add_right _ _
    · exact Nat.le_refl _
  exact I1.fpOk hle (I1.hok.fresh hle)
/-- xs[i] read, for an xs[i] op= e -/
theorem get_list {X : Cx} : PGet X (rIxL X.K) := by
  intro pins s σ H o i ov iv Q I ro ri h
  obtain ⟨p, xs, k, z, rfl, rfl, hq, he, q⟩ := h
  obtain rfl : ov = Value.ref p := ro
  obtain ⟨t, rfl⟩ := (show ∃ t, iv = Value.int k t from ri)
  obtain ⟨its, r, pl, hz⟩ := I.list hq
  obtain ⟨j, h1, h2, h3, h4, h5⟩ := atI_get he
  obtain ⟨u, eu, ru⟩ := r.get h2
  have hl := r.length
  have hn := line63
  have fin : EP X pins σ Q u s := ⟨z, H, I, ru, q⟩
  by_cases h0 : 0 ≤ k
  · have hj : k.toNat = j := Option.some.inj ((seqIndex_of h0 h5).symm.trans h1)
    exact wpAny_getItem_list pl.isList h0 (by omega) (by rw [hj]; simpa using eu) fin
  · have hj : (k + (its.toArray.size : Int)).toNat = j := by
      rw [List.size_toArray, ← hl]
      exact Option.some.inj ((seqIndex_neg (by omega) h4).symm.trans h1)
    exact wpAny_getItem_list_neg pl.isList (by omega) (by rw [List.size_toArray] <;> omega) (by omega) (by rw [hj]; simpa using eu) fin
end PB

/-! PL: readings of loops, comprehensions, operators by kind. -/
namespace PB
open PySem PySem.Spec L2
open PyProof.Rows hiding St
section
variable {K : PySem.W.Frag} {H H' : Hp} {a p d : Addr} {xs ys : List V} {o : HO}
theorem sqL_of (h : H a = some (.lst xs)) : SqL K H a xs := .inl (.inl h)
theorem sqT_of (h : H a = some (.tup xs)) : SqT K H a xs := .inl (.inl h)
theorem sqL_new : SqL K (upd H p (.lst xs)) p xs := sqL_of upd_same
theorem sqT_new : SqT K (upd H p (.tup xs)) p xs := sqT_of upd_same
theorem sqL_ex (e : Ex H H') (h : SqL K H a xs) : SqL K H' a xs := e.sqL h
theorem sqT_ex (e : Ex H H') (h : SqT K H a xs) : SqT K H' a xs := e.sqT h
theorem sqL_up (n : H p = none) (h : SqL K H a xs) : SqL K (upd H p o) a xs := sqL_ex (Ex.new n) h
theorem sqT_up (n : H p = none) (h : SqT K H a xs) : SqT K (upd H p o) a xs := sqT_ex (Ex.new n) h
theorem at_ex {u : HO} (e : Ex H H') (h : H a = some u) : H' a = some u := e a u h
theorem at_up {u : HO} (n : H p = none) (h : H a = some u) : upd H p o a = some u := Ex.new n a u h
theorem free_up {q : Addr} (h : upd H p o q = none) (n : H p = none) : H q = none := (Ex.new (o := o) n).free h
/-- what stood elsewhere stands -/
theorem sqT_exb (e : ExB d H H') (n : a ≠ d) (h : SqT K H a xs) : SqT K H' a xs := by
  rcases h with (h | ⟨o, h⟩) | h
  · exact .inl (.inl (e _ _ n h))
  · exact .inl (.inr ⟨o, e _ _ n h⟩)
  · exact .inr h
theorem sqL_exb (e : ExB d H H') (n : a ≠ d) (h : SqL K H a xs) : SqL K H' a xs := by
  rcases h with (h | ⟨o, h⟩) | h
  · exact .inl (.inl (e _ _ n h))
  · exact .inl (.inr ⟨o, e _ _ n h⟩)
  · exact .inr h
/-- what is a tuple is no list of H -/
theorem sqT_ne {xs ys : List V} (h : SqT K H a xs) (hd : H d = some (.lst ys)) : a = d → ∃ o its n, K.lookup a = some o ∧ o.cls = .type "tuple" ∧ o.data = .seq its n ∧ its.size ≤ sizeLine ∧ Vals xs its.toList := fun e => by
  subst e
  rcases h with (h | ⟨o, h⟩) | h
  · rw [hd] at h; cases h
  · rw [hd] at h; cases h
  · exact h
end
section
variable {σ : St} {H : Hp} {Q : VK} {D : Ends} {K : PySem.W.Frag} {a b : Addr} {i j : Int}
/-! operators on ints -/
theorem r_addI (q : Q (.int (i + j)) H) : rAddA K (.int i) (.int j) H Q := .inl ⟨i, j, rfl, rfl, q⟩
theorem r_mulI (c : CMul i j) (q : Q (.int (i * j)) H) : rMulA K (.int i) (.int j) H Q := .inl ⟨i, j, rfl, rfl, c, q⟩
theorem r_mulT {l : Addr} {xs : List V} {k : Int} (h : SqT K H l xs) (c1 : xs ≠ []) (c2 : 2 ≤ k) (c3 : k ≤ 1000) (c4 : xs.length ≤ 1000) (q : ∀ p, H p = none → Q (.ref p) (upd H p (.tup (List.replicate k.toNat xs).flatten))) : rMulA K (.ref l) (.int k) H Q := .inr (.inr ⟨l, k, xs, rfl, rfl, h, c1, c2, c3, c4, q⟩)
theorem r_cmpI {g : Int → Int → Bool} {f : PyData → PyData → Bool} (q : Q (.bl (g i j)) H) : rCmpA K g f (.int i) (.int j) H Q := .inl ⟨i, j, rfl, rfl, q⟩
theorem r_eqI (q : Q (.bl (decide (i = j))) H) : rEqA K (.int i) (.int j) H Q := .inl ⟨rfl, by
  have e : decide (V.int i = V.int j) = decide (i = j) := decide_eq_decide.mpr ⟨fun h => V.int.inj h, fun h => by rw [h]⟩
  rw [e]; exact q⟩
theorem r_neI (q : Q (.bl (!decide (i = j))) H) : rNeA K (.int i) (.int j) H Q := .inl ⟨rfl, by
  have e : decide (V.int i = V.int j) = decide (i = j) := decide_eq_decide.mpr ⟨fun h => V.int.inj h, fun h => by rw [h]⟩
  rw [e]; exact q⟩
theorem r_modI (c : j ≠ 0) (q : Q (.int (i.fmod j)) H) : rI (fun _ j => j ≠ 0) (fun i j => .int (i.fmod j)) (.int i) (.int j) H Q := ⟨i, j, rfl, rfl, c, q⟩
theorem r_divI (c : CDivN i j) (q : Q (.int (i.fdiv j)) H) : rI CDivN (fun i j => .int (i.fdiv j)) (.int i) (.int j) H Q := ⟨i, j, rfl, rfl, c, q⟩
theorem r_powI (c : CPow i j) (q : Q (.int (i ^ j.toNat)) H) : rI CPow (fun i j => .int (i ^ j.toNat)) (.int i) (.int j) H Q := ⟨i, j, rfl, rfl, c, q⟩
/-! built-in functions -/
theorem r_sumL {ns : List Int} (h : SqL K H a (ns.map V.int)) (q : Q (.int ns.sum) H) : rSumA K [.ref a] H Q := .inl ⟨a, ns, rfl, h, q⟩
theorem r_sumT {ns : List Int} (h : SqT K H a (ns.map V.int)) (q : Q (.int ns.sum) H) : rSumA K [.ref a] H Q := .inr ⟨a, ns, rfl, h, q⟩
theorem r_all {bs : List Bool} (h : SqL K H a (bs.map V.bl)) (q : Q (.bl (bs.all id)) H) : rAll K [.ref a] H Q := ⟨a, bs, rfl, h, q⟩
theorem r_any {bs : List Bool} (h : SqL K H a (bs.map V.bl)) (q : Q (.bl (bs.any id)) H) : rAny K [.ref a] H Q := ⟨a, bs, rfl, h, q⟩
theorem r_max2 (q : Q (.int (max i j)) H) : rMax2A [V.int i, V.int j] H Q := ⟨i, j, rfl, by
  have e : (if j > i then j else i) = max i j := by omega
  rw [e]; exact q⟩
theorem r_min2 (q : Q (.int (min i j)) H) : rMin2A [V.int i, V.int j] H Q := ⟨i, j, rfl, by
  have e : (if j < i then j else i) = min i j := by omega
  rw [e]; exact q⟩
theorem r_abs (q : Q (.int (if i < 0 then -i else i)) H) : rAbsA [V.int i] H Q := ⟨i, rfl, q⟩
theorem r_int1 (q : Q (.int i) H) : rInt1A [V.int i] H Q := .inl ⟨i, rfl, q⟩
end
section
variable {H : Hp} {Q : VK} {K : PySem.W.Frag} {a : Addr} {xs : List V} {ns : List Int}
theorem r_isT (h : SqT K H a xs) (q : Q (.bl true) H) : rIsi K [.ref a, .ty "tuple"] H Q := r_isi (b := true) (.sqT h) rfl q
theorem r_lenL (h : SqL K H a xs) (q : Q (.int xs.length) H) : rLenA K [V.ref a] H Q := ⟨_, xs.length, rfl, .inl ⟨xs, h, rfl⟩, q⟩
theorem r_lenT (h : SqT K H a xs) (q : Q (.int xs.length) H) : rLenA K [V.ref a] H Q := ⟨_, xs.length, rfl, .inr ⟨xs, h, rfl⟩, q⟩
theorem r_lenLI (h : SqL K H a (ns.map V.int)) (q : Q (.int ns.length) H) : rLenA K [V.ref a] H Q := ⟨_, ns.length, rfl, .inl ⟨_, h, by rw [List.length_map]⟩, q⟩
theorem r_lenTI (h : SqT K H a (ns.map V.int)) (q : Q (.int ns.length) H) : rLenA K [V.ref a] H Q := ⟨_, ns.length, rfl, .inr ⟨_, h, by rw [List.length_map]⟩, q⟩
/-- tuple(list), ints -/
theorem r_tupL (h : SqL K H a xs) (q : ∀ p, H p = none → Q (.ref p) (upd H p (.tup xs))) : rTupA K [V.ref a] H Q := ⟨a, xs, rfl, .inl ⟨h, q⟩⟩
theorem r_tupT (h : SqT K H a xs) (q : Q (.ref a) H) : rTupA K [V.ref a] H Q := ⟨a, xs, rfl, .inr ⟨h, q⟩⟩
theorem r_listL (h : SqL K H a xs) (q : ∀ p, H p = none → Q (.ref p) (upd H p (.lst xs))) : rListA K [V.ref a] H Q := ⟨a, xs, rfl, .inl h, q⟩
theorem r_listT (h : SqT K H a xs) (q : ∀ p, H p = none → Q (.ref p) (upd H p (.lst xs))) : rListA K [V.ref a] H Q := ⟨a, xs, rfl, .inr h, q⟩
theorem r_ixL {i : Int} {v : V} (h : SqL K H a xs) (e : atI xs i = some v) (q : Q v H) : rIxA K (.ref a) (.int i) H Q := .inl ⟨a, xs, i, v, rfl, rfl, h, e, q⟩
theorem r_ixT {i : Int} {v : V} (h : SqT K H a xs) (e : atI xs i = some v) (q : Q v H) : rIxA K (.ref a) (.int i) H Q := .inr (.inl ⟨a, xs, i, v, rfl, rfl, h, e, q⟩)
theorem at_I {i : Nat} {n : Int} (h : ns[i]? = some n) : atI (ns.map V.int) (i : Int) = some (.int n) := atI_nat (by rw [List.getElem?_map, h]; rfl)
theorem r_ixLI {i : Nat} {n : Int} (h : SqL K H a (ns.map V.int)) (e : ns[i]? = some n) (q : Q (.int n) H) : rIxA K (.ref a) (.int (i : Nat)) H Q := r_ixL h (at_I e) q
theorem r_ixTI {i : Nat} {n : Int} (h : SqT K H a (ns.map V.int)) (e : ns[i]? = some n) (q : Q (.int n) H) : rIxA K (.ref a) (.int (i : Nat)) H Q := r_ixT h (at_I e) q
end
/-! loops: what a for asks of its walk, what a comprehension asks of it -/
def FQ (g : TG) (tb : TS) (D : Ends) (σ : St) : It → Hp → Prop := fun J H1 => ∃ W : Nat → Nat → St → Hp → Prop, (∃ m, W 0 m σ H1) ∧ ∀ i m σ H, W i m σ H →
  (J.stop i H ∧ D.nx σ H) ∨ (J.go i H ∧ ∃ N : St → Hp → Prop, (∀ σ' H', N σ' H' → ∃ m', m' < m ∧ W (i + 1) m' σ' H') ∧ ∀ x H', J.yld i H x H' → g x σ H' fun σ2 H2 => tb { D with nx := N, ct := N, bk := D.nx } σ2 H2)
def CQ (g : TG) (tt : TT) (te : TE) (vs : List Nat) (σ : St) (Q : VK) : It → Hp → Prop := fun J H1 => ∀ L, H1 L = none → ∃ W : Nat → Nat → Hp → Prop, (∃ m, W 0 m (upd H1 L (.lst []))) ∧ ∀ i m H, W i m H →
  (J.stop i H ∧ Q (.ref L) H) ∨ (J.go i H ∧ ∃ Nx : Hp → Prop, (∀ H', Nx H' → ∃ m', m' < m ∧ W (i + 1) m' H') ∧ ∀ x H', J.yld i H x H' → g x (wipe σ vs) H' fun σ2 H2 => wipe σ2 vs = wipe σ vs ∧ tt σ2 H2 fun b H3 =>
    if b = true then te σ2 H3 fun y H4 => ∃ acc, H4 L = some (.lst acc) ∧ acc.length < sizeLine ∧ Nx (upd H4 L (.lst (acc ++ [y]))) else Nx H3)
def sQ (K : PySem.W.Frag) (R : It → Hp → Prop) : VK := fun x H1 => ∃ a xs, x = .ref a ∧ ((SqL K H1 a xs ∧ R (Itl K a) H1) ∨ (SqT K H1 a xs ∧ R (Itt K a) H1))
def zQ (K : PySem.W.Frag) (R : It → Hp → Prop) : List V → Hp → Prop := fun vs H1 => ∃ (k1 k2 : Sk) (a b : Addr) (xs ys : List V), vs = [.ref a, .ref b] ∧ k1.at K H1 a xs ∧ k2.at K H1 b ys ∧ R (ItP K k1 k2 a b) H1
def eQ (K : PySem.W.Frag) (R : It → Hp → Prop) : List V → Hp → Prop := fun vs H1 => ∃ (k : Sk) (a : Addr) (xs : List V), vs = [.ref a] ∧ k.at K H1 a xs ∧ R (ItE K k a) H1
def nQ1 (R : It → Hp → Prop) : List V → Hp → Prop := fun vs H1 => ∃ j : Int, vs = [.int j] ∧ -(2 ^ 62) ≤ j ∧ j < 2 ^ 62 ∧ R (Itr 0 j.toNat) H1
def nQ2 (R : It → Hp → Prop) : List V → Hp → Prop := fun vs H1 => ∃ i j : Int, vs = [.int i, .int j] ∧ (-(2 ^ 62) ≤ i ∧ i < 2 ^ 62 ∧ -(2 ^ 62) ≤ j ∧ j < 2 ^ 62) ∧ R (Itr i (j - i).toNat) H1
section
variable {σ : St} {H : Hp} {Q : VK} {D : Ends} {K : PySem.W.Frag} {wi : TI} {tl : TE} {ta : TA} {g : TG} {tb : TS} {tt : TT} {te : TE} {vs : List Nat} {R : It → Hp → Prop}
theorem r_yes {Q : Bool → Hp → Prop} (h : Q true H) : tYes σ H Q := h
theorem r_for (h : wi σ H (FQ g tb D σ)) : tFor wi g tb D σ H := h
theorem r_lc (h : wi σ H (CQ g tt te vs σ Q)) : tLc wi g tt te vs σ H Q := h
theorem r_iSeq (h : tl σ H (sQ K R)) : iSeq K tl σ H R := h
theorem r_iZip (h : ta σ H (zQ K R)) : iZipM K ta σ H R := h
theorem r_iEnum (h : ta σ H (eQ K R)) : iEnumM K ta σ H R := h
theorem r_iRng1 (h : ta σ H (nQ1 R)) : iRng1 ta σ H R := h
theorem r_iRng2 (h : ta σ H (nQ2 R)) : iRng2 ta σ H R := h
end
section
variable {H : Hp} {K : PySem.W.Frag} {R : It → Hp → Prop} {a b : Addr} {xs ys : List V}
def ItS (K : PySem.W.Frag) : Sk → Addr → It
  | .l, a => Itl K a
  | .t, a => Itt K a
theorem walk_S {k : Sk} : Walk (ItS K k a) xs.length (fun H => k.at K H a xs) (YAt xs) := by
  cases k with
  | l => exact walk_list
  | t => exact walk_tup
theorem s_S {k : Sk} (h : k.at K H a xs) (r : R (ItS K k a) H) : sQ K R (.ref a) H := by
  cases k with
  | l => exact ⟨a, xs, rfl, .inl ⟨h, r⟩⟩
  | t => exact ⟨a, xs, rfl, .inr ⟨h, r⟩⟩
theorem s_L (h : SqL K H a xs) (r : R (Itl K a) H) : sQ K R (.ref a) H := ⟨a, xs, rfl, .inl ⟨h, r⟩⟩
theorem s_T (h : SqT K H a xs) (r : R (Itt K a) H) : sQ K R (.ref a) H := ⟨a, xs, rfl, .inr ⟨h, r⟩⟩
theorem z_P {k1 k2 : Sk} (h1 : k1.at K H a xs) (h2 : k2.at K H b ys) (r : R (ItP K k1 k2 a b) H) : zQ K R [.ref a, .ref b] H := ⟨k1, k2, a, b, xs, ys, rfl, h1, h2, r⟩
theorem e_P {k : Sk} (h : k.at K H a xs) (r : R (ItE K k a) H) : eQ K R [.ref a] H := ⟨k, a, xs, rfl, h, r⟩
theorem n_1 {n : Int} (h : -(2 ^ 62) ≤ n ∧ n < 2 ^ 62) (r : R (Itr 0 n.toNat) H) : nQ1 R [.int n] H := ⟨n, rfl, h.1, h.2, r⟩
theorem n_2 {m n : Int} (h : -(2 ^ 62) ≤ m ∧ m < 2 ^ 62 ∧ -(2 ^ 62) ≤ n ∧ n < 2 ^ 62) (r : R (Itr m (n - m).toNat) H) : nQ2 R [.int m, .int n] H := ⟨m, n, rfl, h, r⟩
theorem walk_P {k1 k2 : Sk} {n : Nat} (hn : n = min xs.length ys.length) : Walk (ItP K k1 k2 a b) n (fun H => k1.at K H a xs ∧ k2.at K H b ys) (YPair (fun i => xs[i]?) (fun i => ys[i]?)) := by
  subst hn
  refine ⟨fun i _ hi q => ?_, fun _ q => ⟨xs, ys, q.1, q.2, rfl⟩, fun i H v H' _ q y => ?_⟩
  · have h1 : i < xs.length := by omega
    have h2 : i < ys.length := by omega
    exact ⟨xs, ys, xs[i], ys[i], q.1, q.2, List.getElem?_eq_getElem h1, List.getElem?_eq_getElem h2⟩
  · obtain ⟨T, x, z, h1, h2, h3, h4, h5⟩ := y
    exact ⟨T, x, z, h1, h2, h3, h4 xs q.1, h5 ys q.2⟩
theorem walk_E {k : Sk} : Walk (ItE K k a) xs.length (fun H => k.at K H a xs) (YPair (fun i => some (.int (i : Nat))) (fun i => xs[i]?)) := by
  refine ⟨fun i _ hi q => ⟨xs, xs[i], q, List.getElem?_eq_getElem hi⟩, fun _ q => ⟨xs, q, rfl⟩, fun i H v H' _ q y => ?_⟩
  obtain ⟨T, x, h1, h2, h3, h4⟩ := y
  exact ⟨T, .int (i : Nat), x, h1, h2, h3, rfl, h4 xs q⟩
end
/-! a for by its walk -/
section
variable {σ : St} {H : Hp} {D : Ends} {K : PySem.W.Frag} {g : TG} {tb : TS} {J : It} {n : Nat} {G : Hp → Prop} {Y : Nat → Hp → V → Hp → Prop}
theorem f_it (w : Walk J n G Y) (Pv : Nat → St → Hp → Prop) (h0 : Pv 0 σ H) (hG : ∀ i σ H, i ≤ n → Pv i σ H → G H)
    (hs : ∀ i x σ H H', i < n → Pv i σ H → Y i H x H' → g x σ H' fun σ2 H2 => tb { D with nx := Pv (i + 1), ct := Pv (i + 1), bk := D.nx } σ2 H2) (hd : ∀ σ H, Pv n σ H → D.nx σ H) : FQ g tb D σ J H := for_it w Pv h0 hG hs hd
/-- a range by one name -/
theorem f_rng {lo : Int} {j : Nat} (Pv : Nat → St → Hp → Prop) (h0 : Pv 0 σ H)
    (hs : ∀ (i : Nat) σ H, i < n → Pv i σ H → tb { D with nx := Pv (i + 1), ct := Pv (i + 1), bk := D.nx } (σ.set j (some (.int (lo + i)))) H) (hd : ∀ σ H, Pv n σ H → D.nx σ H) : FQ (gName j) tb D σ (Itr lo n) H :=
  for_range Pv h0 (fun i σ H hi p => hs i σ H hi p) hd
/-- a list or a tuple by one name -/
theorem f_seq {k : Sk} {a : Addr} {xs : List V} {j : Nat} (h : k.at K H a xs) (Pv : Nat → St → Hp → Prop) (h0 : Pv 0 σ H) (hG : ∀ i σ H, i ≤ xs.length → Pv i σ H → k.at K H a xs)
    (hs : ∀ i x σ H, xs[i]? = some x → Pv i σ H → tb { D with nx := Pv (i + 1), ct := Pv (i + 1), bk := D.nx } (σ.set j (some x)) H) (hd : ∀ σ H, Pv xs.length σ H → D.nx σ H) : sQ K (FQ (gName j) tb D σ) (.ref a) H :=
  s_S h (f_it walk_S Pv h0 hG (fun i x σ H H' _ p y => by
    obtain ⟨e, y⟩ := y
    subst e
    exact hs i x σ H' y p) hd)
/-- a pair's two names -/
theorem g_two {σ : St} {H : Hp} {K : PySem.W.Frag} {i j : Nat} {T : Addr} {x y : V} {Q : St → Hp → Prop} (q : Q ((σ.set i (some x)).set j (some y)) (upd H T (.tup [x, y]))) : gTup K 2 (gCons (gName i) (gCons (gName j) gNil)) (.ref T) σ (upd H T (.tup [x, y])) Q :=
  ⟨T, [x, y], rfl, sqT_new, rfl, x, [y], rfl, y, [], rfl, rfl, q⟩
/-- enumerate by two names -/
theorem f_enum {k : Sk} {a : Addr} {xs : List V} {j l : Nat} (h : k.at K H a xs) (Pv : Nat → St → Hp → Prop) (h0 : Pv 0 σ H) (hG : ∀ i σ H, i ≤ xs.length → Pv i σ H → k.at K H a xs)
    (hs : ∀ (i : Nat) x T σ H, xs[i]? = some x → Pv i σ H → H T = none → tb { D with nx := Pv (i + 1), ct := Pv (i + 1), bk := D.nx } ((σ.set j (some (.int (i : Nat)))).set l (some x)) (upd H T (.tup [.int (i : Nat), x]))) (hd : ∀ σ H, Pv xs.length σ H → D.nx σ H) :
    eQ K (FQ (gTup K 2 (gCons (gName j) (gCons (gName l) gNil))) tb D σ) [.ref a] H :=
  e_P h (f_it walk_E Pv h0 hG (fun i x σ H H' _ p y => by
    obtain ⟨T, u, v, e1, h1, e2, e3, e4⟩ := y
    obtain rfl := Option.some.inj e3
    subst e1 e2
    exact g_two (hs i v T σ H e4 p h1)) hd)
/-- zip by two names -/
theorem f_zip {k1 k2 : Sk} {a b : Addr} {xs ys : List V} {j l : Nat} (h1 : k1.at K H a xs) (h2 : k2.at K H b ys) (hn : n = min xs.length ys.length) (Pv : Nat → St → Hp → Prop) (h0 : Pv 0 σ H) (hG : ∀ i σ H, i ≤ n → Pv i σ H → k1.at K H a xs ∧ k2.at K H b ys)
    (hs : ∀ (i : Nat) x y T σ H, xs[i]? = some x → ys[i]? = some y → Pv i σ H → H T = none → tb { D with nx := Pv (i + 1), ct := Pv (i + 1), bk := D.nx } ((σ.set j (some x)).set l (some y)) (upd H T (.tup [x, y]))) (hd : ∀ σ H, Pv n σ H → D.nx σ H) :
    zQ K (FQ (gTup K 2 (gCons (gName j) (gCons (gName l) gNil))) tb D σ) [.ref a, .ref b] H :=
  z_P h1 h2 (f_it (walk_P hn) Pv h0 hG (fun i x σ H H' _ p y => by
    obtain ⟨T, u, v, e1, h1, e2, e3, e4⟩ := y
    subst e1 e2
    exact g_two (hs i u v T σ H e3 e4 p h1)) hd)
end
/-! a comprehension by its walk -/
section
variable {σ : St} {H : Hp} {Q : VK} {K : PySem.W.Frag} {g : TG} {tt : TT} {te : TE} {vs : List Nat} {J : It} {n : Nat} {G : Hp → Prop} {Y : Nat → Hp → V → Hp → Prop}
/-- nothing that stood changes; Φ is told of the items so far -/
theorem c_it (w : Walk J n G Y) (hn : n < 16000000) (hG : ∀ H', Ex H H' → G H') (Φ : Nat → List V → Hp → Prop) (h0 : ∀ H', Ex H H' → Φ 0 [] H')
    (st : ∀ L i acc H1 u u', H1 L = some (.lst u) → H L = none → Φ i acc H1 → Φ i acc (upd H1 L (.lst u')))
    (turn : ∀ i x acc H1 H2 (q : VK) (N : Hp → Prop), i < n → Ex H H1 → Φ i acc H1 → Y i H1 x H2 → (∀ y H4, Ex H1 H4 → Φ (i + 1) (acc ++ [y]) H4 → q y H4) → (∀ H3, Ex H1 H3 → Φ (i + 1) acc H3 → N H3) →
      g x (wipe σ vs) H2 fun σ2 H3 => wipe σ2 vs = wipe σ vs ∧ tt σ2 H3 fun b H4 => if b = true then te σ2 H4 q else N H4)
    (done : ∀ L acc H', H L = none → Ex H H' → H' L = some (.lst acc) → acc.length ≤ n → Φ n acc H' → Q (.ref L) H') : CQ g tt te vs σ Q J H := by
  intro L hL
  refine lc_it w (fun i H' => ∃ acc, Ex H H' ∧ H' L = some (.lst acc) ∧ acc.length ≤ i ∧ Φ i acc H') ⟨[], Ex.new hL, upd_same, Nat.le_refl _, h0 _ (Ex.new hL)⟩ (fun i H' _ p => hG H' p.choose_spec.1) ?_ ?_
  · rintro i x H1 H2 hi ⟨acc, e1, e2, e3, e4⟩ y
    refine turn i x acc H1 H2 _ _ hi e1 e4 y (fun z H4 e5 e6 => ⟨acc, e5 _ _ e2, Nat.lt_of_le_of_lt (Nat.le_trans e3 (by omega)) (show 16000000 < sizeLine by decide), acc ++ [z], ?_, upd_same, ?_, st L _ _ _ acc _ (e5 _ _ e2) hL e6⟩) fun H3 e5 e6 => ⟨acc, e1.trans e5, e5 _ _ e2, Nat.le_succ_of_le e3, e6⟩
    · intro b o hb
      have hne : b ≠ L := fun z => by rw [z, hL] at hb; cases hb
      exact (upd_ne hne).trans ((e1.trans e5) b o hb)
    · rw [List.length_append, List.length_singleton]; omega
  · rintro H' ⟨acc, e1, e2, e3, e4⟩
    exact done L acc H' hL e1 e2 e3 e4
/-- what each turn gives is known ahead: f i, or nothing -/
theorem c_fn (w : Walk J n G Y) (f : Nat → Option V) (hn : n < 16000000) (hG : ∀ H', Ex H H' → G H')
    (turn : ∀ i x H1 H2 (q : VK) (N : Hp → Prop), i < n → Ex H H1 → Y i H1 x H2 → (∀ y H4, f i = some y → Ex H1 H4 → q y H4) → (∀ H3, f i = none → Ex H1 H3 → N H3) →
      g x (wipe σ vs) H2 fun σ2 H3 => wipe σ2 vs = wipe σ vs ∧ tt σ2 H3 fun b H4 => if b = true then te σ2 H4 q else N H4)
    (done : ∀ L H', H L = none → Ex H H' → H' L = some (.lst ((List.range n).filterMap f)) → Q (.ref L) H') : CQ g tt te vs σ Q J H := by
  refine c_it w hn hG (fun i acc _ => acc = (List.range i).filterMap f) (fun _ _ => rfl) (fun _ _ _ _ _ _ _ _ e => e) ?_ ?_
  · intro i x acc H1 H2 q N hi e1 e2 y hq hN
    refine turn i x H1 H2 q N hi e1 y (fun z H4 e3 e4 => hq z H4 e4 ?_) fun H3 e3 e4 => hN H3 e4 ?_
    · rw [List.range_succ, List.filterMap_append, ← e2]
      show _ = acc ++ (List.filterMap f [i])
      rw [List.filterMap_cons, e3]; rfl
    · rw [List.range_succ, List.filterMap_append, ← e2]
      show _ = acc ++ (List.filterMap f [i])
      rw [List.filterMap_cons, e3]; exact (List.append_nil _).symm
  · intro L acc H' hL e1 e2 _ e4
    rw [e4] at e2
    exact done L H' hL e1 e2
theorem range_fm {α β : Type} (xs : List β) (h : β → Option α) : (List.range xs.length).filterMap (fun i => xs[i]?.bind h) = xs.filterMap h := by
  induction xs with
  | nil => rfl
  | cons x xs ih =>
    rw [List.length_cons, List.range_succ_eq_map, List.filterMap_cons, List.filterMap_map]
    show (match h x with | none => _ | some b => _) = _
    rw [List.filterMap_cons, ← ih]; rfl
/-- over a list or a tuple, by one name, what it gives is a function of the item -/
theorem c_seq {k : Sk} {a : Addr} {xs : List V} {j : Nat} (h : k.at K H a xs) (f : V → Option V) (hn : xs.length < 16000000) (hG : ∀ H', Ex H H' → k.at K H' a xs) (hw : ∀ x, wipe ((wipe σ vs).set j (some x)) vs = wipe σ vs)
    (turn : ∀ x H1 (q : VK) (N : Hp → Prop), x ∈ xs → Ex H H1 → (∀ y H4, f x = some y → Ex H1 H4 → q y H4) → (∀ H3, f x = none → Ex H1 H3 → N H3) →
      tt ((wipe σ vs).set j (some x)) H1 fun b H4 => if b = true then te ((wipe σ vs).set j (some x)) H4 q else N H4)
    (done : ∀ L H', H L = none → Ex H H' → H' L = some (.lst (xs.filterMap f)) → Q (.ref L) H') : sQ K (CQ (gName j) tt te vs σ Q) (.ref a) H :=
  s_S h (c_fn walk_S (fun i => xs[i]?.bind f) hn hG (fun i x H1 H2 q N hi e1 y hq hN => by
    obtain ⟨e2, y⟩ := y
    subst e2
    refine ⟨hw x, turn x H2 q N (List.mem_of_getElem? y) e1 (fun z H4 e3 e4 => hq z H4 (by rw [y]; exact e3) e4) fun H3 e3 e4 => hN H3 (by rw [y]; exact e3) e4⟩)
    (fun L H' h1 h2 h3 => done L H' h1 h2 (by rw [← range_fm]; exact h3)))
/-- over zip, by two names -/
theorem c_zip {k1 k2 : Sk} {a b : Addr} {xs ys : List V} {j l : Nat} (h1 : k1.at K H a xs) (h2 : k2.at K H b ys) (f : V → V → Option V) (hl : xs.length = ys.length) (hn : xs.length < 16000000) (hG : ∀ H', Ex H H' → k1.at K H' a xs ∧ k2.at K H' b ys)
    (hw : ∀ x y, wipe (((wipe σ vs).set j (some x)).set l (some y)) vs = wipe σ vs)
    (turn : ∀ x y T H1 (q : VK) (N : Hp → Prop), (x, y) ∈ xs.zip ys → Ex H H1 → H1 T = none → (∀ z H4, f x y = some z → Ex H1 H4 → q z H4) → (∀ H3, f x y = none → Ex H1 H3 → N H3) →
      tt (((wipe σ vs).set j (some x)).set l (some y)) (upd H1 T (.tup [x, y])) fun b H4 => if b = true then te (((wipe σ vs).set j (some x)).set l (some y)) H4 q else N H4)
    (done : ∀ L H', H L = none → Ex H H' → H' L = some (.lst ((xs.zip ys).filterMap fun z => f z.1 z.2)) → Q (.ref L) H') : zQ K (CQ (gTup K 2 (gCons (gName j) (gCons (gName l) gNil))) tt te vs σ Q) [.ref a, .ref b] H := by
  have hz : (xs.zip ys).length = xs.length := by rw [List.length_zip]; omega
  refine z_P h1 h2 (c_fn (walk_P (n := xs.length) (by omega)) (fun i => (xs.zip ys)[i]?.bind fun z => f z.1 z.2) hn hG (fun i x H1 H2 q N hi e1 y hq hN => ?_) (fun L H' h1 h2 h3 => done L H' h1 h2 ?_))
  · obtain ⟨T, u, v, e2, e3, e4, e5, e6⟩ := y
    subst e2 e4
    have ez : (xs.zip ys)[i]? = some (u, v) := by
      rw [List.getElem?_zip_eq_some]
      exact ⟨e5, e6⟩
    exact g_two ⟨hw u v, turn u v T H1 q N (List.mem_of_getElem? ez) e1 e3 (fun z H4 e7 e8 => hq z H4 (by rw [ez]; exact e7) e8) fun H3 e7 e8 => hN H3 (by rw [ez]; exact e7) e8⟩
  · rw [← hz] at h3
    rw [h3]
    rw [range_fm (xs.zip ys) fun z => f z.1 z.2]
theorem Sk.ex {H H' : Hp} {a : Addr} {xs : List V} (k : Sk) (e : Ex H H') (h : k.at K H a xs) : k.at K H' a xs := by
  cases k with
  | l => exact sqL_ex e h
  | t => exact sqT_ex e h
/-- ints to ints -/
theorem c_seqI {k : Sk} {a : Addr} {ns : List Int} {j : Nat} (h : k.at K H a (ns.map V.int)) (f : Int → Int) (hn : ns.length < 16000000) (hw : ∀ x, wipe ((wipe σ vs).set j (some x)) vs = wipe σ vs)
    (turn : ∀ x H1 (q : VK) (N : Hp → Prop), x ∈ ns → Ex H H1 → (∀ H4, Ex H1 H4 → q (.int (f x)) H4) → tt ((wipe σ vs).set j (some (.int x))) H1 fun b H4 => if b = true then te ((wipe σ vs).set j (some (.int x))) H4 q else N H4)
    (done : ∀ L H', H L = none → Ex H H' → H' L = some (.lst ((ns.map f).map V.int)) → Q (.ref L) H') : sQ K (CQ (gName j) tt te vs σ Q) (.ref a) H := by
  refine c_seq h (fun v => match v with | .int i => some (.int (f i)) | _ => none) (by rw [List.length_map]; exact hn) (fun H' e => k.ex e h) hw (fun x H1 q N hx e hq _ => ?_) fun L H' h1 h2 h3 => done L H' h1 h2 ?_
  · obtain ⟨n, hn, rfl⟩ := List.mem_map.mp hx
    exact turn n H1 q N hn e fun H4 e4 => hq _ H4 rfl e4
  · rw [h3]
    congr 2
    clear h3 h hn turn done
    induction ns with
    | nil => rfl
    | cons n ns ih => rw [List.map_cons, List.filterMap_cons, ih]; rfl
/-- ints to truths -/
theorem c_seqB {k : Sk} {a : Addr} {ns : List Int} {j : Nat} (h : k.at K H a (ns.map V.int)) (f : Int → Bool) (hn : ns.length < 16000000) (hw : ∀ x, wipe ((wipe σ vs).set j (some x)) vs = wipe σ vs)
    (turn : ∀ x H1 (q : VK) (N : Hp → Prop), x ∈ ns → Ex H H1 → (∀ H4, Ex H1 H4 → q (.bl (f x)) H4) → tt ((wipe σ vs).set j (some (.int x))) H1 fun b H4 => if b = true then te ((wipe σ vs).set j (some (.int x))) H4 q else N H4)
    (done : ∀ L H', H L = none → Ex H H' → H' L = some (.lst ((ns.map f).map V.bl)) → Q (.ref L) H') : sQ K (CQ (gName j) tt te vs σ Q) (.ref a) H := by
  refine c_seq h (fun v => match v with | .int i => some (.bl (f i)) | _ => none) (by rw [List.length_map]; exact hn) (fun H' e => k.ex e h) hw (fun x H1 q N hx e hq _ => ?_) fun L H' h1 h2 h3 => done L H' h1 h2 ?_
  · obtain ⟨n, hn, rfl⟩ := List.mem_map.mp hx
    exact turn n H1 q N hn e fun H4 e4 => hq _ H4 rfl e4
  · rw [h3]
    congr 2
    clear h3 h hn turn done
    induction ns with
    | nil => rfl
    | cons n ns ih => rw [List.map_cons, List.filterMap_cons, ih]; rfl
theorem zip_I (f : Int → Int → Int) : ∀ gs as : List Int, (((gs.map V.int).zip (as.map V.int)).filterMap fun z => (match z.1, z.2 with | .int i, .int j => some (V.int (f i j)) | _, _ => none)) = ((gs.zip as).map fun p => f p.1 p.2).map V.int
  | [], _ => rfl
  | _ :: _, [] => rfl
  | g :: gs, a :: as => by
    rw [List.map_cons, List.map_cons, List.zip_cons_cons, List.zip_cons_cons, List.filterMap_cons, zip_I f gs as]; rfl
theorem mem_zipI : ∀ {gs as : List Int} {x y : V}, (x, y) ∈ (gs.map V.int).zip (as.map V.int) → ∃ i j, x = .int i ∧ y = .int j ∧ (i, j) ∈ gs.zip as
  | [], _, x, y, h => by rw [List.map_nil, List.zip_nil_left] at h; cases h
  | _ :: _, [], x, y, h => by rw [List.map_nil, List.zip_nil_right] at h; cases h
  | g :: gs, a :: as, x, y, h => by
    rw [List.map_cons, List.map_cons, List.zip_cons_cons, List.mem_cons] at h
    rcases h with h | h
    · cases h; exact ⟨g, a, rfl, rfl, List.mem_cons_self ..⟩
    · obtain ⟨i, j, h1, h2, h3⟩ := mem_zipI h
      exact ⟨i, j, h1, h2, List.mem_cons_of_mem _ h3⟩
/-- two sources of ints to ints -/
theorem c_zipI {k1 k2 : Sk} {a b : Addr} {gs as : List Int} {j l : Nat} (h1 : k1.at K H a (gs.map V.int)) (h2 : k2.at K H b (as.map V.int)) (f : Int → Int → Int) (hl : gs.length = as.length) (hn : gs.length < 16000000)
    (hw : ∀ x y, wipe (((wipe σ vs).set j (some x)).set l (some y)) vs = wipe σ vs)
    (turn : ∀ x y T H1 (q : VK) (N : Hp → Prop), (x, y) ∈ gs.zip as → Ex H H1 → H1 T = none → (∀ H4, Ex H1 H4 → q (.int (f x y)) H4) →
      tt (((wipe σ vs).set j (some (.int x))).set l (some (.int y))) (upd H1 T (.tup [.int x, .int y])) fun b H4 => if b = true then te (((wipe σ vs).set j (some (.int x))).set l (some (.int y))) H4 q else N H4)
    (done : ∀ L H', H L = none → Ex H H' → H' L = some (.lst (((gs.zip as).map fun p => f p.1 p.2).map V.int)) → Q (.ref L) H') : zQ K (CQ (gTup K 2 (gCons (gName j) (gCons (gName l) gNil))) tt te vs σ Q) [.ref a, .ref b] H := by
  refine c_zip h1 h2 (fun u v => match u, v with | .int i, .int j => some (V.int (f i j)) | _, _ => none) (by rw [List.length_map, List.length_map]; exact hl) (by rw [List.length_map]; exact hn) (fun H' e => ⟨k1.ex e h1, k2.ex e h2⟩) hw (fun x y T H1 q N hx e hT hq _ => ?_)
    fun L H' d1 d2 d3 => done L H' d1 d2 (by rw [d3, zip_I])
  obtain ⟨i, j, rfl, rfl, hm⟩ := mem_zipI hx
  exact turn i j T H1 q N hm e hT fun H4 e4 => hq _ H4 rfl e4
end
section
variable {σ : St} {H : Hp} {D : Ends} {c : TT} {tb : TS} {ta : TA} {i j : Nat} {x y : V}
theorem r_while (W : Nat → St → Hp → Prop) (m : Nat) (h0 : W m σ H)
    (hs : ∀ m σ H, W m σ H → c σ H fun b H1 => if b = true then ∃ N : St → Hp → Prop, (∀ σ' H', N σ' H' → ∃ m', m' < m ∧ W m' σ' H') ∧ tb { D with nx := N, ct := N, bk := D.nx } σ H1 else D.nx σ H1) : tWhile c tb D σ H := ⟨W, ⟨m, h0⟩, hs⟩
theorem r_wN {W : Nat → St → Hp → Prop} {m : Nat} (q : tb { D with nx := fun σ' H' => ∃ m', m' < m ∧ W m' σ' H', ct := fun σ' H' => ∃ m', m' < m ∧ W m' σ' H', bk := D.nx } σ H) :
    ∃ N : St → Hp → Prop, (∀ σ' H', N σ' H' → ∃ m', m' < m ∧ W m' σ' H') ∧ tb { D with nx := N, ct := N, bk := D.nx } σ H := ⟨_, fun _ _ p => p, q⟩
def pQ (i j : Nat) (D : Ends) (σ : St) : List V → Hp → Prop := fun vs H1 => ∃ v w, vs = [v, w] ∧ D.nx ((σ.set i (some v)).set j (some w)) H1
theorem r_par (h : ta σ H (pQ i j D σ)) : tPar i j ta D σ H := h
theorem r_pQ (h : D.nx ((σ.set i (some x)).set j (some y)) H) : pQ i j D σ [x, y] H := ⟨x, y, rfl, h⟩
theorem ix_nat {n i : Nat} (h : i < n) : ixN n (i : Int) = some i := by
  unfold ixN
  rw [if_pos (by omega), if_pos (by omega)]; simp
theorem r_setL {p : Addr} {xs : List V} {i : Nat} {v : V} {H : Hp} {Q : Hp → Prop} (h : H p = some (.lst xs)) (n : i < xs.length) (q : Q (upd H p (.lst (xs.set i v)))) : rSetL (.ref p) (.int (i : Nat)) v H Q := ⟨p, xs, _, i, rfl, rfl, h, ix_nat n, q⟩
theorem r_getL {K : PySem.W.Frag} {p : Addr} {xs : List V} {i : Nat} {v : V} {H : Hp} {Q : VK} (h : SqL K H p xs) (e : xs[i]? = some v) (q : Q v H) : rIxL K (.ref p) (.int (i : Nat)) H Q := ⟨p, xs, _, v, rfl, rfl, h, atI_nat e, q⟩
theorem r_augS {to ti te : TE} {tget : V → V → Hp → VK → Prop} {tip : TIp} {tset : TSet} (h : to σ H fun o H1 => ti σ H1 fun i H2 => tget o i H2 fun x H3 => te σ H3 fun y H4 => tip x y H4 fun z H5 => tset o i z H5 fun H6 => D.nx σ H6) : tAugS to ti te tget tip tset D σ H := h
theorem r_gsub {to ti : TE} {t : TSet} {v : V} {Q : St → Hp → Prop} (h : to σ H fun o H1 => ti σ H1 fun i H2 => t o i v H2 fun H3 => Q σ H3) : gSub to ti t v σ H Q := h
theorem r_sl {r : V → Option Int → Option Int → Hp → VK → Prop} {te : TE} {tl th : TO} {Q : VK} (h : te σ H fun x H1 => tl σ H1 fun l H2 => th σ H2 fun u H3 => r x l u H3 Q) : tSl r te tl th σ H Q := h
theorem r_part {t : TE} {Q : Option Int → Hp → Prop} (h : t σ H fun x H1 => ∃ i, x = .int i ∧ Q (some i) H1) : tPart t σ H Q := h
theorem r_nopart {Q : Option Int → Hp → Prop} (h : Q none H) : tNoPart σ H Q := h
theorem r_parI {n : Int} {P : Int → Prop} (h : P n) : ∃ i, V.int n = .int i ∧ P i := ⟨n, rfl, h⟩
end
section
variable {H : Hp} {Q : VK} {K : PySem.W.Frag} {a b : Addr} {xs ys : List V} {ns : List Int}
theorem r_ixS {k : Sk} {i : Nat} {v : V} (h : k.at K H a xs) (e : xs[i]? = some v) (q : Q v H) : rIxA K (.ref a) (.int (i : Nat)) H Q := by
  cases k with
  | l => exact r_ixL h (atI_nat e) q
  | t => exact r_ixT h (atI_nat e) q
theorem r_lenS {k : Sk} (h : k.at K H a xs) (q : Q (.int xs.length) H) : rLenA K [V.ref a] H Q := by
  cases k with
  | l => exact r_lenL h q
  | t => exact r_lenT h q
theorem Sk.exb {H H' : Hp} {a d : Addr} {xs : List V} (k : Sk) (e : ExB d H H') (n : a ≠ d) (h : k.at K H a xs) : k.at K H' a xs := by
  cases k with
  | l => exact sqL_exb e n h
  | t => exact sqT_exb e n h
theorem cut_map (lo hi : Option Int) : ∃ m n, cutV (ns.map V.int) lo hi = ((ns.drop m).take n).map V.int := ⟨_, _, by
  unfold cutV
  rw [List.map_take, List.map_drop]⟩
theorem r_slL {lo hi : Option Int} (h : SqL K H a xs) (q : ∀ p, H p = none → Q (.ref p) (upd H p (.lst (cutV xs lo hi)))) : rSlcA K (.ref a) lo hi H Q := .inl ⟨a, xs, rfl, h, q⟩
theorem r_catL (h1 : H a = some (.lst xs)) (h2 : H b = some (.lst ys)) (n : xs.length + ys.length ≤ sizeLine) (q : ∀ p, H p = none → Q (.ref p) (upd H p (.lst (xs ++ ys)))) : rAddA K (.ref a) (.ref b) H Q := .inr (.inl ⟨a, b, xs, ys, rfl, rfl, h1, h2, n, q⟩)
end
/-- either way an int -/
theorem r_split {σ : St} {H : Hp} {ta tb : TE} {Q : VK} {p : Prop} [Decidable p] (main : ∀ i : Int, Q (.int i) H) (h1 : p → (∀ i : Int, Q (.int i) H) → ta σ H Q) (h2 : ¬ p → (∀ i : Int, Q (.int i) H) → tb σ H Q) : if decide p = true then ta σ H Q else tb σ H Q :=
  r_D (fun c => h1 c main) (fun c => h2 c main)
/-! ### the dice of the laws -/
/-- the dice at d, rolled n times at most -/
def Dice (n : Nat) (H : Hp) (d : Addr) : Prop := ∃ x y z : Int, H d = some (.lst ([x, y, z].map V.int)) ∧ 0 ≤ x ∧ 0 ≤ y ∧ y < 2147480009 ∧ 0 ≤ z ∧ z ≤ n
theorem Dice.ex {n : Nat} {H H' : Hp} {d : Addr} (e : Ex H H') (h : Dice n H d) : Dice n H' d := by
  obtain ⟨x, y, z, h, r⟩ := h
  exact ⟨x, y, z, e _ _ h, r⟩
theorem Dice.ne {n : Nat} {H : Hp} {d p : Addr} (h : Dice n H d) (q : H p = none) : p ≠ d := fun e => by
  obtain ⟨x, y, z, h, r⟩ := h
  rw [← e, q] at h
  cases h
theorem Dice.exb {n : Nat} {H H' : Hp} {d p : Addr} (h : Dice n H d) (e : ExB d H H') (q : H' p = none) (h' : Dice (n + 1) H' d) : H p = none := by
  cases hp : H p with
  | none => rfl
  | some o =>
    have := e p o (h'.ne q) hp
    rw [q] at this; cases this
theorem Dice.mono {m n : Nat} {H : Hp} {d : Addr} (l : m ≤ n) (h : Dice m H d) : Dice n H d := by
  obtain ⟨x, y, z, h, h1, h2, h3, h4, h5⟩ := h
  exact ⟨x, y, z, h, h1, h2, h3, h4, by omega⟩
theorem IsTy.ex {K : PySem.W.Frag} {H H' : Hp} {v : V} {T : String} (e : Ex H H') (h : IsTy K H v T) : IsTy K H' v T := by
  obtain ⟨h, m⟩ := h
  refine ⟨?_, m⟩
  generalize ht : Value.type T = t at h
  cases h with
  | base b =>
    cases b with
    | non => exact .base .non
    | bl b => exact .base (.bl b)
    | int i => exact .base (.int i)
    | str x => exact .base (.str x)
    | flt x => exact .base (.flt x)
    | lst q => exact .base (.lst (e _ _ q))
    | frz q => exact .base (.frz (e _ _ q))
    | tup q => exact .base (.tup (e _ _ q))
    | dK q => exact .base (.dK (e _ _ q))
    | dT q => exact .base (.dT (e _ _ q))
    | ins => cases ht
  | byt b => exact .byt b
  | set q => exact .set (e _ _ q)
  | kList q c => exact .kList q c
  | kTuple q c => exact .kTuple q c
  | kDict q c => exact .kDict q c
  | fTuple q => exact .fTuple (e _ _ q)
  | fDict q => exact .fDict (e _ _ q)
/-- is a thing of type T one of c -/
def isT (T c : String) : Bool := T == c || (T == "bool" && c == "int")
theorem kit_all : ∀ T ∈ tyNames, ∀ c ∈ tyNames, kitB T c = some (isT T c) := by decide +kernel
theorem r_isiK {K : PySem.W.Frag} {H : Hp} {v : V} {T c : String} {Q : VK} (ty : IsTy K H v T) (hc : c ∈ tyNames) (q : Q (.bl (isT T c)) H) : rIsi K [v, .ty c] H Q := r_isi ty (kit_all T ty.2 c hc) q
end PB

/-! PK: the rules with the frame K named (a comprehension's own scope must not be in the reading). -/
namespace PB
open PySem PySem.Spec L2
open PyProof.Rows hiding St
section
variable {X : Cx} {K : PySem.W.Frag} {j : Nat}
theorem k_lt (eK : X.K = K) (hr : Room j X.A) : OpR X (compareOp .Lt) (rCmpA K (fun i j => decide (i < j)) fun d e => PySem.W.dataLt d e) := by subst eK; exact op_ltA hr
theorem k_gt (eK : X.K = K) (hr : Room j X.A) : OpR X (compareOp .Gt) (rCmpA K (fun i j => decide (j < i)) fun d e => PySem.W.dataLt e d) := by subst eK; exact op_gtA hr
theorem k_le (eK : X.K = K) (hr : Room j X.A) : OpR X (compareOp .LtE) (rCmpA K (fun i j => decide (i ≤ j)) fun d e => !PySem.W.dataLt e d) := by subst eK; exact op_leA hr
theorem k_ge (eK : X.K = K) (hr : Room j X.A) : OpR X (compareOp .GtE) (rCmpA K (fun i j => decide (j ≤ i)) fun d e => !PySem.W.dataLt d e) := by subst eK; exact op_geA hr
theorem k_eq (eK : X.K = K) (hr : Room j X.A) : OpR X (compareOp .Eq) (rEqA K) := by subst eK; exact op_eqA hr
theorem k_ne (eK : X.K = K) (hr : Room j X.A) : OpR X (compareOp .NotEq) (rNeA K) := by subst eK; exact op_neA hr
theorem k_in (eK : X.K = K) (hr : Room j X.A) : OpR X (compareOp .In) (rInA K) := by subst eK; exact op_inA hr
theorem k_nin (eK : X.K = K) (hr : Room j X.A) : OpR X (compareOp .NotIn) (rNinA K) := by subst eK; exact op_ninA hr
theorem k_add (eK : X.K = K) : OpR X (binaryOp .Add) (rAddA K) := by subst eK; exact op_addA
theorem k_mul (eK : X.K = K) : OpR X (binaryOp .Mult) (rMulA K) := by subst eK; exact op_mulA
theorem k_sum (eK : X.K = K) (hc : X.calm = true) : CallR X (.builtin "sum") (rSumA K) := by subst eK; exact cr_sumA hc
theorem k_sorted (eK : X.K = K) : CallR X (.builtin "sorted") (rSortedA K) := by subst eK; exact cr_sortedA
theorem k_len (eK : X.K = K) : CallR X (.builtin "len") (rLenA K) := by subst eK; exact cr_len
theorem k_isi (eK : X.K = K) : CallR X (.builtin "isinstance") (rIsi K) := by subst eK; exact call_isi
theorem k_all (eK : X.K = K) (hc : X.calm = true) : CallR X (.builtin "all") (rAll K) := by subst eK; exact cr_all hc
theorem k_any (eK : X.K = K) (hc : X.calm = true) : CallR X (.builtin "any") (rAny K) := by subst eK; exact cr_any hc
theorem k_tuple (eK : X.K = K) : CallR X (.type "tuple") (rTupA K) := by subst eK; exact cr_tuple
theorem k_list (eK : X.K = K) : CallR X (.type "list") (rListA K) := by subst eK; exact cr_list
theorem k_ix (eK : X.K = K) : IxR X (rIxA K) := by subst eK; exact ix_A
theorem k_sl (eK : X.K = K) : SlR X (rSlcA K) := by subst eK; exact sl_A
theorem k_get (eK : X.K = K) : PGet X (rIxL K) := by subst eK; exact get_list
def tTru (K : PySem.W.Frag) (ta : TE) : TT := fun σ H Q => ta σ H fun x H' => ∃ k, TruV K x H' k ∧ Q k H'
theorem k_truth {a : Expr} {ta : TE} (eK : X.K = K) (ha : PE X a ta) (he : ∀ whole, isTrue a X.env whole = (do let v ← whole; standAt a.pos; holding [v] (truthy v))) : PT X a (tTru K ta) := by
  subst eK
  exact pt_truth ha he
theorem k_seq {tg l : Expr} {tl : TE} (eK : X.K = K) (hl : PE X l tl) : PI X tg l (iSeq K tl) := by subst eK; exact pi_seq hl
theorem k_zip {e e2 : Expr} {ta : TA} {p pos tpos : Pos} {elts : List Expr} {kk : Nat} (eK : X.K = K) (hg : Gl X "zip") (hm : X.mg "zip" = none) (ha : PA X [e, e2] ta)
    (hs : starEach [e, e2] X.env = (false, eval e X.env) :: starEach [e2] X.env := by rfl) (hpl : (backTo pos (starEach [e2] X.env)).any (·.1) = false := by rfl) :
    PI X (.Tuple elts kk tpos) (.Call (.Name "zip" p) [e, e2] [] pos) (iZipM K ta) := by
  subst eK
  exact pi_zipM hg hm ha hs hpl
theorem k_enum {e : Expr} {ta : TA} {p pos tpos : Pos} {elts : List Expr} {kk : Nat} (eK : X.K = K) (cl : X.calm = true) (hm : X.mg "enumerate" = none) (ha : PA X [e] ta) (hg : Gl X "enumerate" := by rfl) (hs : starEach [e] X.env = [(false, eval e X.env)] := by rfl) :
    PI X (.Tuple elts kk tpos) (.Call (.Name "enumerate" p) [e] [] pos) (iEnumM K ta) := by
  subst eK
  exact pi_enumM cl hm ha hg hs
theorem k_two {i j kk : Nat} {x y : Str} {px py pos : Pos} (eK : X.K = K) (hN : X.N.Nodup) (hi : X.N[i]? = some x) (hj : X.N[j]? = some y) (lx : Loc X.env.scope x) (ly : Loc X.env.scope y)
    (fx : X.fn x = true ∨ X.env.scope.names.lookup x = some .local) (fy : X.fn y = true ∨ X.env.scope.names.lookup y = some .local) (hc : X.calm = true) : PG X (.Tuple [.Name x px, .Name y py] kk pos) (gTup K 2 (gCons (gName i) (gCons (gName j) gNil))) := by
  subst eK
  exact pg_two hc hN hi hj lx ly fx fy
theorem k_three {i j l kk : Nat} {x y z : Str} {px py pz pos : Pos} (eK : X.K = K) (hN : X.N.Nodup) (hi : X.N[i]? = some x) (hj : X.N[j]? = some y) (hl : X.N[l]? = some z) (lx : Loc X.env.scope x) (ly : Loc X.env.scope y) (lz : Loc X.env.scope z)
    (fx : X.fn x = true ∨ X.env.scope.names.lookup x = some .local) (fy : X.fn y = true ∨ X.env.scope.names.lookup y = some .local) (fz : X.fn z = true ∨ X.env.scope.names.lookup z = some .local) (hc : X.calm = true) : PG X (.Tuple [.Name x px, .Name y py, .Name z pz] kk pos) (gTup K 3 (gCons (gName i) (gCons (gName j) (gCons (gName l) gNil)))) := by
  subst eK
  exact pg_three hc hN hi hj hl lx ly lz fx fy fz
theorem k_tup {es : List Expr} {k n : Nat} {t : TGs} {pos : Pos} (eK : X.K = K) (hc : X.calm = true) (h : PGs X es t) (hn : (assignEach es X.env).length = n := by rfl) (hst : (assignEach es X.env).findIdx? (·.1) = none := by rfl) : PG X (.Tuple es k pos) (gTup K n t) := by
  subst eK
  exact pg_tup hc h hn hst
theorem k_append {o e : Expr} {to te : TE} {apos cpos : Pos} (eK : X.K = K) (ho : PE X o to) (ha : PE X e te) (hbase : attributeBase o "append" X.env (eval o X.env) = eval o X.env := by rfl)
    (hfew : ((backTo cpos (starEach [e] X.env)).all (fun x => !x.1) && (backToKw cpos (keywordEach [] X.env)).all (fun x => x.1.isSome) && decide ([e].length + ([] : List Keyword).length + (if ([] : List Keyword).isEmpty then 0 else 1) < 30)) = true := by rfl)
    (hline : (apos.endLine == cpos.line) = true := by rfl) (hs : starEach [e] X.env = (false, eval e X.env) :: starEach [] X.env := by rfl) :
    PE X (.Call (.Attribute o "append" apos) [e] [] cpos) (tBM K "list" rAppend to (tCons te tNil)) := by
  subst eK
  exact pe_bm PySem.F.plainAttrs_list PySem.F.slot_list_append PySem.F.type_list_append mt_append ho (pa_cons ha pa_nil hs) hbase hfew hline hs rfl
end
section
variable {K : PySem.W.Frag} {σ : St} {H : Hp} {Q : VK} {ta : TE} {a : Addr} {xs : List V} {v : V}
theorem r_tru {Q : Bool → Hp → Prop} (h : ta σ H fun x H' => ∃ k, TruV K x H' k ∧ Q k H') : tTru K ta σ H Q := h
/-- xs.append(v) -/
theorem r_bm {T : String} {r : V → List V → Hp → VK → Prop} {t : TA} (h : ta σ H fun x H1 => tyV K T x H1 ∧ t σ H1 fun xs H2 => r x xs H2 Q) : tBM K T r ta t σ H Q := h
theorem r_app (h : H a = some (.lst xs)) (n : xs.length < sizeLine) (q : Q .non (upd H a (.lst (xs ++ [v])))) : rAppend (.ref a) [v] H Q := ⟨a, xs, v, rfl, rfl, h, n, q⟩
end
end PB

/-! PD: rows of ints as data: ==, !=, in, <, sorted. -/
namespace PB
open PySem PySem.Spec L2
open PyProof.Rows hiding St
section
variable {K : PySem.W.Frag} {H H' : Hp} {a b : Addr} {ns ms : List Int} {Q : VK}
/-- ints as data -/
def dI (ns : List Int) : List PyData := ns.map .int
theorem dp_I : ∀ ns : List Int, DpAll K H (ns.map V.int) (dI ns)
  | [] => .nil
  | n :: ns => .cons (.int n) (dp_I ns)
theorem dp_t (h : SqT K H a (ns.map V.int)) : Dp K H (.ref a) (.tuple (dI ns)) := .tup h (dp_I ns)
theorem dp_l (h : SqL K H a (ns.map V.int)) : Dp K H (.ref a) (.list (dI ns)) := .lst h (dp_I ns)
theorem lay_I : ∀ ns : List Int, PyData.canLayAll0 (dI ns) = true
  | [] => by unfold dI; rw [List.map_nil]; simp only [PyData.canLayAll0]
  | n :: ns => by
    have := lay_I ns
    unfold dI at this ⊢
    rw [List.map_cons]
    simp only [PyData.canLayAll0, PyData.canLay0, this, Bool.and_self]
theorem dep_I : ∀ ns : List Int, PyData.depthAll (dI ns) = 0
  | [] => by unfold dI; rw [List.map_nil]; simp only [PyData.depthAll]
  | n :: ns => by
    have := dep_I ns
    unfold dI at this ⊢
    rw [List.map_cons]
    simp only [PyData.depthAll, PyData.depth, this, Nat.max_self]
theorem sh_of {d : PyData} (h : d.canLay0 = true) (e : d.depth ≤ 64) : SeqAt.shaped d = true := by
  unfold SeqAt.shaped
  rw [h, decide_eq_true e]; rfl
theorem dep_t : PyData.depth (.tuple (dI ns)) = 1 := by simp only [PyData.depth, dep_I]
theorem dep_l : PyData.depth (.list (dI ns)) = 1 := by simp only [PyData.depth, dep_I]
theorem sh_t : SeqAt.shaped (.tuple (dI ns)) = true := sh_of (by simp only [PyData.canLay0, lay_I]) (by rw [dep_t]; decide)
theorem sh_l : SeqAt.shaped (.list (dI ns)) = true := sh_of (by simp only [PyData.canLay0, lay_I]) (by rw [dep_l]; decide)
theorem ali_I : ∀ ns ms : List Int, PySem.W.alikeAll (dI ns) (dI ms) = true
  | [], [] => by unfold dI; simp only [List.map_nil, PySem.W.alikeAll]
  | [], _ :: _ => by unfold dI; simp only [List.map_nil, List.map_cons, PySem.W.alikeAll]
  | _ :: _, [] => by unfold dI; simp only [List.map_nil, List.map_cons, PySem.W.alikeAll]
  | n :: ns, m :: ms => by
    have := ali_I ns ms
    unfold dI at this ⊢
    simp only [List.map_cons, PySem.W.alikeAll, PySem.W.alike, this, Bool.and_self]
theorem eqv_I : ∀ ns ms : List Int, PyData.eqvAll (dI ns) (dI ms) = decide (ns = ms)
  | [], [] => by unfold dI; simp only [List.map_nil, PyData.eqvAll, decide_true]
  | [], _ :: _ => by unfold dI; simp only [List.map_nil, List.map_cons, PyData.eqvAll]; rfl
  | _ :: _, [] => by unfold dI; simp only [List.map_nil, List.map_cons, PyData.eqvAll]; rfl
  | n :: ns, m :: ms => by
    have := eqv_I ns ms
    unfold dI at this ⊢
    simp only [List.map_cons, PyData.eqvAll, PyData.eqv, this]
    by_cases h1 : n = m <;> by_cases h2 : ns = ms <;> simp [h1, h2]
theorem lt_I (ns ms : List Int) : PySem.W.dataLt (.list (dI ns)) (.list (dI ms)) = decide (ns < ms) := by
  rw [PySem.W.dataLt_list]
  exact PySem.W.dataLt_ints ns ms
theorem lt_T (ns ms : List Int) : PySem.W.dataLt (.tuple (dI ns)) (.tuple (dI ms)) = decide (ns < ms) := by
  rw [PySem.W.dataLt_tuple]
  exact PySem.W.dataLt_ints ns ms
/-- two lists of ints compared -/
theorem r_gtLL (h1 : SqL K H a (ns.map V.int)) (h2 : SqL K H b (ms.map V.int)) (q : Q (.bl (decide (ms < ns))) H) : rCmpA K (fun i j => decide (j < i)) (fun d e => PySem.W.dataLt e d) (.ref a) (.ref b) H Q :=
  .inr ⟨_, _, dp_l h1, dp_l h2, by simp only [PySem.W.alike]; exact ali_I ns ms, (fun e => nomatch e), by rw [dep_l, dep_l]; decide, by rw [← lt_I] at q; exact q⟩
theorem r_ltTT (h1 : SqT K H a (ns.map V.int)) (h2 : SqT K H b (ms.map V.int)) (q : Q (.bl (decide (ns < ms))) H) : rCmpA K (fun i j => decide (i < j)) (fun d e => PySem.W.dataLt d e) (.ref a) (.ref b) H Q :=
  .inr ⟨_, _, dp_t h1, dp_t h2, by simp only [PySem.W.alike]; exact ali_I ns ms, (fun e => nomatch e), by rw [dep_t, dep_t]; decide, by rw [← lt_T] at q; exact q⟩
theorem r_eqTT (h1 : SqT K H a (ns.map V.int)) (h2 : SqT K H b (ms.map V.int)) (q : Q (.bl (decide (ns = ms))) H) : rEqA K (.ref a) (.ref b) H Q :=
  .inr ⟨_, _, dp_t h1, dp_t h2, sh_t, sh_t, by simp only [PyData.eqv, eqv_I]; exact q⟩
theorem r_neTT (h1 : SqT K H a (ns.map V.int)) (h2 : SqT K H b (ms.map V.int)) (q : Q (.bl (!decide (ns = ms))) H) : rNeA K (.ref a) (.ref b) H Q :=
  .inr ⟨_, _, dp_t h1, dp_t h2, sh_t, sh_t, by simp only [PyData.eqv, eqv_I]; exact q⟩
theorem r_eqLL (h1 : SqL K H a (ns.map V.int)) (h2 : SqL K H b (ms.map V.int)) (q : Q (.bl (decide (ns = ms))) H) : rEqA K (.ref a) (.ref b) H Q :=
  .inr ⟨_, _, dp_l h1, dp_l h2, sh_l, sh_l, by simp only [PyData.eqv, eqv_I]; exact q⟩
theorem r_neLL (h1 : SqL K H a (ns.map V.int)) (h2 : SqL K H b (ms.map V.int)) (q : Q (.bl (!decide (ns = ms))) H) : rNeA K (.ref a) (.ref b) H Q :=
  .inr ⟨_, _, dp_l h1, dp_l h2, sh_l, sh_l, by simp only [PyData.eqv, eqv_I]; exact q⟩
theorem r_sortedL {H : Hp} (h : SqL K H a (ns.map V.int)) (q : ∀ (ns' : List Int) (p : Addr), ns'.Perm ns → ns'.Pairwise (· ≤ ·) → H p = none → Q (.ref p) (upd H p (.lst (ns'.map V.int)))) : rSortedA K [V.ref a] H Q := .inl ⟨a, ns, rfl, h, q⟩
theorem r_sortedT {H : Hp} (h : SqT K H a (ns.map V.int)) (q : ∀ (ns' : List Int) (p : Addr), ns'.Perm ns → ns'.Pairwise (· ≤ ·) → H p = none → Q (.ref p) (upd H p (.lst (ns'.map V.int)))) : rSortedA K [V.ref a] H Q := .inr ⟨a, ns, rfl, h, q⟩
/-! ### rows: values that are tuples of ints -/
def Row (K : PySem.W.Frag) (H : Hp) (v : V) (r : List Int) : Prop := ∃ p, v = .ref p ∧ SqT K H p (r.map V.int)
/-- these values are these rows -/
inductive Rws (K : PySem.W.Frag) (H : Hp) : List V → List (List Int) → Prop
  | nil : Rws K H [] []
  | cons {v : V} {vs : List V} {r : List Int} {rs : List (List Int)} : Row K H v r → Rws K H vs rs → Rws K H (v :: vs) (r :: rs)
theorem Row.ex {v : V} {r : List Int} (e : Ex H H') (h : Row K H v r) : Row K H' v r := by
  obtain ⟨p, rfl, h⟩ := h
  exact ⟨p, rfl, sqT_ex e h⟩
theorem Rws.ex {vs : List V} {rs : List (List Int)} (e : Ex H H') (h : Rws K H vs rs) : Rws K H' vs rs := by
  induction h with
  | nil => exact .nil
  | cons h _ ih => exact .cons (h.ex e) ih
/-- the rows stay where another object changes -/
theorem Row.put {v : V} {r : List Int} {d : Addr} {xs : List V} {o : HO} (hd : H d = some (.lst xs)) (h : Row K H v r) : Row K (upd H d o) v r := by
  obtain ⟨p, rfl, h⟩ := h
  refine ⟨p, rfl, ?_⟩
  rcases h with (h | ⟨o', h⟩) | h
  · exact .inl (.inl ((upd_ne (fun e => by rw [e, hd] at h; cases h)).trans h))
  · exact .inl (.inr ⟨o', (upd_ne (fun e => by rw [e, hd] at h; cases h)).trans h⟩)
  · exact .inr h
theorem Rws.put {vs : List V} {rs : List (List Int)} {d : Addr} {xs : List V} {o : HO} (hd : H d = some (.lst xs)) (h : Rws K H vs rs) : Rws K (upd H d o) vs rs := by
  induction h with
  | nil => exact .nil
  | cons h _ ih => exact .cons (h.put hd) ih
theorem Rws.snoc {vs : List V} {rs : List (List Int)} {v : V} {r : List Int} (h : Rws K H vs rs) (k : Row K H v r) : Rws K H (vs ++ [v]) (rs ++ [r]) := by
  induction h with
  | nil => exact .cons k .nil
  | cons h _ ih => exact .cons h ih
theorem Rws.length {vs : List V} {rs : List (List Int)} (h : Rws K H vs rs) : vs.length = rs.length := by
  induction h with
  | nil => rfl
  | cons _ _ ih => rw [List.length_cons, List.length_cons, ih]
theorem Rws.get {vs : List V} {rs : List (List Int)} (h : Rws K H vs rs) : ∀ {i : Nat} {v : V}, vs[i]? = some v → ∃ r, rs[i]? = some r ∧ Row K H v r := by
  induction h with
  | nil => intro i v e; cases e
  | cons h _ ih =>
    intro i v e
    cases i with
    | zero => cases e; exact ⟨_, rfl, h⟩
    | succ i => exact ih (by simpa using e)
theorem Rws.dp {vs : List V} {rs : List (List Int)} (h : Rws K H vs rs) : DpAll K H vs (rs.map fun r => .tuple (dI r)) := by
  induction h with
  | nil => exact .nil
  | cons h _ ih =>
    obtain ⟨p, rfl, h⟩ := h
    exact .cons (dp_t h) ih
theorem lay_R : ∀ rs : List (List Int), PyData.canLayAll0 (rs.map fun r => .tuple (dI r)) = true
  | [] => by rw [List.map_nil]; simp only [PyData.canLayAll0]
  | r :: rs => by rw [List.map_cons]; simp only [PyData.canLayAll0, PyData.canLay0, lay_R rs, lay_I, Bool.and_self]
theorem dep_R : ∀ rs : List (List Int), PyData.depthAll (rs.map fun r => .tuple (dI r)) ≤ 1
  | [] => by rw [List.map_nil]; simp only [PyData.depthAll]; decide
  | r :: rs => by
    have := dep_R rs
    rw [List.map_cons]
    simp only [PyData.depthAll, PyData.depth, dep_I]
    omega
theorem sh_R {rs : List (List Int)} : SeqAt.shaped (.list (rs.map fun r => .tuple (dI r))) = true :=
  sh_of (by simp only [PyData.canLay0, lay_R]) (by simp only [PyData.depth]; have := dep_R rs; omega)
theorem any_R (r : List Int) : ∀ rs : List (List Int), ((rs.map fun r => PyData.tuple (dI r)).any fun z => PyData.eqv z (.tuple (dI r))) = decide (r ∈ rs)
  | [] => rfl
  | s :: rs => by
    rw [List.map_cons, List.any_cons, any_R r rs]
    simp only [PyData.eqv, eqv_I]
    by_cases h1 : s = r
    · subst h1; simp
    · by_cases h2 : r ∈ rs
      · simp [h2]
      · have h3 : ¬ r = s := fun e => h1 e.symm
        simp [h1, h2, h3]
/-- a row not in a list of rows -/
theorem r_ninR {vs : List V} {rs : List (List Int)} (h1 : SqT K H a (ns.map V.int)) (h2 : SqL K H b vs) (h3 : Rws K H vs rs) (q : Q (.bl (!decide (ns ∈ rs))) H) : rNinA K (.ref a) (.ref b) H Q :=
  .inr ⟨_, _, dp_t h1, .lst h2 h3.dp, sh_t, sh_R, by rw [any_R]; exact q⟩
theorem r_inR {vs : List V} {rs : List (List Int)} (h1 : SqT K H a (ns.map V.int)) (h2 : SqL K H b vs) (h3 : Rws K H vs rs) (q : Q (.bl (decide (ns ∈ rs))) H) : rInA K (.ref a) (.ref b) H Q :=
  .inr ⟨_, _, dp_t h1, .lst h2 h3.dp, sh_t, sh_R, by rw [any_R]; exact q⟩
/-- two lists without an item -/
theorem r_ne00 (h1 : SqL K H a []) (h2 : SqL K H b []) (q : Q (.bl false) H) : rNeA K (.ref a) (.ref b) H Q := r_neLL (ns := []) (ms := []) h1 h2 q
theorem r_eq00 (h1 : SqL K H a []) (h2 : SqL K H b []) (q : Q (.bl true) H) : rEqA K (.ref a) (.ref b) H Q := r_eqLL (ns := []) (ms := []) h1 h2 q
/-- a tuple and a tuple of one or more -/
theorem r_catT {xs ys : List V} (h1 : SqT K H a xs) (h2 : SqT K H b ys) (n : xs.length + ys.length ≤ sizeLine) (q : ∀ p H', Ex H H' → SqT K H' p (xs ++ ys) → Q (.ref p) H') : rAddA K (.ref a) (.ref b) H Q :=
  .inr (.inr (.inl ⟨a, b, xs, ys, rfl, rfl, h1, h2, n, fun e => by subst e; exact q b H (Ex.refl H) h2, fun _ e => by subst e; rw [List.append_nil] at q; exact q a H (Ex.refl H) h1, fun _ _ p hp => q p _ (Ex.new hp) sqT_new⟩))
theorem r_slT {xs : List V} {lo hi : Option Int} (h : SqT K H a xs) (q : ∀ p H', Ex H H' → SqT K H' p (cutV xs lo hi) → Q (.ref p) H') : rSlcA K (.ref a) lo hi H Q := by
  refine .inr (.inl ⟨a, xs, rfl, h, fun ⟨e1, e2⟩ => q a H (Ex.refl H) ?_, fun _ p hp => q p _ (Ex.new hp) sqT_new⟩)
  have e : cutV xs lo hi = xs := by
    unfold cutV
    rw [e1, e2]
    simp
  rw [e]; exact h
end
/-- rows that pass a test -/
theorem c_rows {σ : St} {H : Hp} {Q : VK} {K : PySem.W.Frag} {tt : TT} {te : TE} {vs : List Nat} {a : Addr} {ws : List V} {rs : List (List Int)} {j : Nat} (h : SqL K H a ws) (hr : Rws K H ws rs) (f : List Int → Bool) (hn : ws.length < 16000000) (hw : ∀ x, wipe ((wipe σ vs).set j (some x)) vs = wipe σ vs)
    (turn : ∀ v r H1 (q : VK) (N : Hp → Prop), r ∈ rs → Ex H H1 → Row K H1 v r → (f r = true → ∀ H4, Ex H1 H4 → q v H4) → (f r = false → ∀ H4, Ex H1 H4 → N H4) → tt ((wipe σ vs).set j (some v)) H1 fun b H4 => if b = true then te ((wipe σ vs).set j (some v)) H4 q else N H4)
    (done : ∀ L H' us, H L = none → Ex H H' → H' L = some (.lst us) → Rws K H' us (rs.filter f) → Q (.ref L) H') : sQ K (CQ (gName j) tt te vs σ Q) (.ref a) H := by
  refine s_L h (c_it walk_list hn (fun H' e => sqL_ex e h) (fun i acc H' => Rws K H' acc ((rs.take i).filter f)) (fun _ _ => by rw [List.take_zero, List.filter_nil]; exact .nil) (fun L i acc H1 u u' hL _ p => p.put hL) ?_ ?_)
  · rintro i x acc H1 H2 q N hi e1 p ⟨rfl, hx⟩ hq hN
    obtain ⟨r, er, rw'⟩ := hr.get hx
    have tk : rs.take (i + 1) = rs.take i ++ [r] := by rw [List.take_add_one, er]; rfl
    refine ⟨hw x, turn x r H2 q N (List.mem_of_getElem? er) e1 (rw'.ex e1) (fun fy H4 e4 => hq x H4 e4 ?_) fun fn H4 e4 => hN H4 e4 ?_⟩
    · rw [tk, List.filter_append, List.filter_cons_of_pos fy, List.filter_nil]
      exact (p.ex e4).snoc ((rw'.ex e1).ex e4)
    · rw [tk, List.filter_append, List.filter_cons_of_neg (by rw [fn]; decide), List.filter_nil, List.append_nil]
      exact p.ex e4
  · intro L acc H' h1 h2 h3 _ h5
    rw [List.take_of_length_le (Nat.le_of_eq hr.length.symm)] at h5
    exact done L H' acc h1 h2 h3 h5
/-- a row of rolls -/
theorem c_dice {σ : St} {H : Hp} {Q : VK} {tt : TT} {te : TE} {vs : List Nat} {j n m : Nat} {lo t : Int} {d : Addr} (hd : Dice n H d) (hm : m < 16000000) (hw : ∀ x, wipe ((wipe σ vs).set j (some x)) vs = wipe σ vs)
    (turn : ∀ (i : Nat) H1 (q : VK) (N : Hp → Prop), i < m → ExB d H H1 → Dice (n + i) H1 d → (∀ r H4, 0 ≤ r → r < t → ExB d H1 H4 → Dice (n + i + 1) H4 d → q (.int r) H4) →
      tt ((wipe σ vs).set j (some (.int (lo + i)))) H1 fun b H4 => if b = true then te ((wipe σ vs).set j (some (.int (lo + i)))) H4 q else N H4)
    (done : ∀ L H' (ns : List Int), H L = none → L ≠ d → ExB d H H' → H' L = some (.lst (ns.map V.int)) → ns.length = m → (∀ x ∈ ns, 0 ≤ x ∧ x < t) → Dice (n + m) H' d → Q (.ref L) H') : CQ (gName j) tt te vs σ Q (Itr lo m) H := by
  intro L hL
  have ne : L ≠ d := hd.ne hL
  refine lc_it walk_range (fun i H' => ∃ ns : List Int, ExB d H H' ∧ H' L = some (.lst (ns.map V.int)) ∧ ns.length = i ∧ (∀ x ∈ ns, 0 ≤ x ∧ x < t) ∧ Dice (n + i) H' d) ⟨[], ExB.of (Ex.new hL), upd_same, rfl, (fun x hx => nomatch hx), hd.ex (Ex.new hL)⟩ (fun _ _ _ _ => trivial) ?_ ?_
  · rintro i x H1 H2 hi ⟨ns, e1, e2, e3, e4, e5⟩ ⟨rfl, rfl⟩
    refine ⟨hw _, turn i H2 _ _ hi e1 e5 fun r H4 r0 r1 e6 e7 => ?_⟩
    have hL4 : H4 L = some (.lst (ns.map V.int)) := e6 _ _ ne e2
    refine ⟨ns.map V.int, hL4, by rw [List.length_map]; exact Nat.lt_trans (by omega : ns.length < 16000000) (by decide), ns ++ [r], ?_, by rw [upd_same, List.map_append]; rfl, by rw [List.length_append, e3]; rfl, ?_, ?_⟩
    · intro b o hb ho
      have hne : b ≠ L := fun z => by rw [z, hL] at ho; cases ho
      exact (upd_ne hne).trans (e6 _ _ hb (e1 b o hb ho))
    · intro y hy
      rw [List.mem_append, List.mem_singleton] at hy
      rcases hy with hy | rfl
      · exact e4 y hy
      · exact ⟨r0, r1⟩
    · obtain ⟨x, y, z, h, r⟩ := e7
      exact ⟨x, y, z, (upd_ne (Ne.symm ne)).trans h, r⟩
  · rintro H' ⟨ns, e1, e2, e3, e4, e5⟩
    exact done L H' ns hL ne e1 e2 e3 e4 e5
theorem cut_lo {xs : List V} {i : Nat} : cutV xs none (some (i : Int)) = xs.take i := by
  unfold cutV
  rw [HT.sIx_none, HT.sIx_nat, Nat.sub_zero, List.drop_zero, List.take_eq_take_iff]
  omega
theorem cut_hi {xs : List V} {i : Nat} : cutV xs (some (i : Int)) none = xs.drop i := by
  unfold cutV
  rw [HT.sIx_none, HT.sIx_nat]
  by_cases h : i ≤ xs.length
  · rw [Nat.min_eq_left h, List.take_of_length_le (by rw [List.length_drop]; exact Nat.le_refl _)]
  · rw [Nat.min_eq_right (by omega), List.drop_eq_nil_of_le (Nat.le_refl _), List.drop_eq_nil_of_le (by omega), List.take_nil]
theorem Dice.fresh {n : Nat} {H : Hp} {d p : Addr} {o : HO} (h : Dice n H d) (hp : H p = none) : Dice n (upd H p o) d := h.ex (Ex.new hp)
end PB

/-! PG: defs that need to know that no repr is under way: calls, the law's own call, repr of data. -/
namespace PB
open PySem PySem.Spec L2
open PyProof.Rows hiding St
/-- as FnOk, where no repr is under way -/
structure FnG (P : Program) (w : World) (K : PySem.W.Frag) (mg : Str → Option Value) (base : Heap) (k : Nat) (f : Addr) (fd : FuncData) (ps : List Str) (sp : Sp) : Prop where
  len : ∀ vs H Q E, sp vs H Q E → vs.length = ps.length
  run : ∀ (A : Around) (outer : List Env) (s : Shared) (H : Hp) (args : Args) (us : List Value) (vs : List V) (Q : VK) (E : XK), A.guards = some [] → Room k A → Env0 P w K mg base A outer s H → BindsTo s fd args (ps.zip us) → Vals vs us → sp vs H Q E →
    codeAny (model P w) A (.call (.ref f) args) (CR (L2.CX P w) outer P w H s Q E) s
def CalG (P : Program) (w : World) (K : PySem.W.Frag) (mg : Str → Option Value) (base : Heap) (k : Nat) (x : Str) (ps : List Str) (sp : Sp) : Prop :=
  ∃ f fd, mg x = some (.ref f) ∧ PySem.W.keepIn K (.ref f) = true ∧ FnG P w K mg base k f fd ps sp ∧ Binds K fd ps []
theorem pe_fG {X : Cx} {k j : Nat} {x : Str} {ps : List Str} {sp : Sp} {E : XK} {p pos : Pos} {e : Expr} {es : List Expr} {t : TA} (c : CalG X.prog X.w X.K X.mg X.base k x ps sp) (gd : X.A.guards = some []) (hr : Room j X.A) (hk : k ≤ j) (hx : Passes (L2.CX X.prog X.w) X E) (ha : PA X (e :: es) t)
    (hg : Gl X x := by rfl) (hdb : (x == ("__debug__" : Str)) = false := by decide) (he : starEach (e :: es) X.env = (false, eval e X.env) :: starEach es X.env := by rfl) (hpl : (backTo pos (starEach es X.env)).any (·.1) = false := by rfl) :
    PE X (.Call (.Name x p) (e :: es) [] pos) (tCall sp [] E t) := by
  obtain ⟨f, fd, h1, h2, F, b⟩ := c
  refine ⟨fun pins s σ H Q I h => wpAny_Call_Name_kw (ld_glob I hg h1 ?_ hdb)⟩
  refine PySem.W.callWith_K (h₀ := X.base) I.ok.mod.kin h2 (thn (ha.run pos pins s σ H _ I h) fun us s1 ⟨vs, H1, I1, r, q⟩ => ⟨I1.kIn, ?_⟩) he hpl
  have q2 : sp (vs ++ []) H1 Q E := q
  rw [List.append_nil] at q2
  have hl : (us ++ []).length = ps.length := by
    rw [List.append_nil, ← r.length]
    exact F.len _ _ _ _ q2
  have hb := b s1 us I1.kIn hl
  rw [List.append_nil] at hb
  refine wpAny_call (codeAny_mono (F.run X.A X.stack s1 H1 ⟨us, []⟩ us vs Q E gd (hr.mono hk) I1.env0 hb r q2) fun z s' hq => ?_)
  match z, hq with
  | .error er, hq => exact hx pins σ H1 s1 er s' I1 hq
  | .ok (.ret u), hq => exact I1.after hq
  | .ok .next, hq => exact hq.elim
  | .ok .brk, hq => exact hq.elim
  | .ok .cont, hq => exact hq.elim
/-- such a def's body -/
theorem fnG_of {P : Program} {w : World} {K : PySem.W.Frag} {mg : Str → Option Value} {base : Heap} {x : Str} {a : Arguments} {b : List Stmt} {sc : Scope} {f : Addr} {fd : FuncData} {N ps : List Str} {k : Nat} {sp : Sp} (F : FunD K x x a b sc [] [] f fd) (S : FnScope N ps sc)
    (len : ∀ vs H Q E, sp vs H Q E → vs.length = ps.length)
    (hbody : ∀ (cdv : Value) (A : Around) (outer : List Env) (s : Shared) (H : Hp) (vs : List V) (Q : VK) (E : XK), (A.deeper (envOfC x sc s.heap.objs.size f cdv)).guards = some [] → Room k (A.deeper (envOfC x sc s.heap.objs.size f cdv)) → sp vs H Q E →
      ∃ t, PSs (cxOf (L2.CX P w) P w K mg base N x sc f cdv A outer s H E) b t ∧ t { nx := fun _ H' => Q .non H', rt := Q } (start N vs) H) : FnG P w K mg base (k + 1) f fd ps sp := by
  obtain ⟨oc, od, dV, kV, doc, pm, an, cdv, ct, osl, rfl, lk, hcd, _, _⟩ := F.ex
  exact ⟨len, fun A outer s H args us vs Q E hg hr e0 hb r h => LamX.run_ofS lk hcd S hr e0 hb r (len _ _ _ _ h) fun hr' => hbody cdv A outer s H vs Q E hg hr' h⟩
section
variable {P : Program} {w : World} {fa : List He.Fa} {fn : List He.DefD} {K : PySem.W.Frag} {mg : Str → Option Value} {base : Heap}
theorem Ct.calG (C : Ct fa fn K mg base) (i j : Nat) {x : Str} {a : Arguments} {b : List Stmt} {sc : Scope} (hd : fn[i]? = some ⟨(x, none), x, x, a, b, sc, [], []⟩) (hj : fa[j]? = some (.glo x)) {N ps : List Str} {k : Nat} {sp : Sp} (S : FnScope N ps sc)
    (hb : ∀ (kV doc pm : Value) (an : Option Addr) (cdv ct : Value) (us : List Value), us.length = ps.length → bindArgs (PySem.W.fnOf x x a b sc .none kV doc pm an cdv ct) ⟨us, []⟩ = pure (ps.zip us))
    (len : ∀ vs H Q E, sp vs H Q E → vs.length = ps.length)
    (hbody : ∀ (f : Addr) (cdv : Value) (A : Around) (outer : List Env) (s : Shared) (H : Hp) (vs : List V) (Q : VK) (E : XK), (A.deeper (envOfC x sc s.heap.objs.size f cdv)).guards = some [] → Room k (A.deeper (envOfC x sc s.heap.objs.size f cdv)) → sp vs H Q E →
      ∃ t, PSs (cxOf (L2.CX P w) P w K mg base N x sc f cdv A outer s H E) b t ∧ t { nx := fun _ H' => Q .non H', rt := Q } (start N vs) H) : CalG P w K mg base (k + 1) x ps sp := by
  obtain ⟨fd, F⟩ := C.says.def_ i hd
  exact ⟨_, fd, He.glo_ok C.kin C.glob (C.says.fact j hj), F.kp, fnG_of F S len fun cdv A outer s H vs Q E hg hr h => hbody _ cdv A outer s H vs Q E hg hr h, FunD.bindsN F hb⟩
end
/-! ### repr -/
/-- the text of data -/
def rRepr (K : PySem.W.Frag) : List V → Hp → VK → Prop := fun vs H Q => ∃ a d, vs = [.ref a] ∧ Dp K H (.ref a) d ∧ d.showable = true ∧ d.hasDict = false ∧ d.shown.length ≤ sizeLine ∧ d.depth ≤ 60 ∧ Q (.str d.shown) H
theorem k_repr {X : Cx} {K : PySem.W.Frag} {j : Nat} (eK : X.K = K) (hr : Room j X.A) (gd : X.A.guards = some []) : CallR X (.builtin "repr") (rRepr K) := by
  subst eK
  intro pins s σ H vs us Q I r h
  obtain ⟨a, d, rfl, hd, sh, nd, hz, dp, q⟩ := h
  rw [Vals.ref1 r]
  obtain ⟨as, rd⟩ := Dp.reads I d (.ref a) (.ref a) hd rfl
  have hu : X.A.units + (d.depth + 1) < cLine := by
    have := hr.un
    omega
  refine repr_of_reads' rd sh (fun e => by rw [nd] at e; cases e) gd hu (fun _ _ z => z) (fun h' u tk k => ⟨.str d.shown, H, I.kept k, ⟨u, rfl⟩, q⟩) hz
/-! ### the law called: nothing stands but the script and the tables -/
section
variable {P : Program} {w : World} {K : PySem.W.Frag} {mg mb : Str → Option Value} {cs : List (Addr × Addr)} {st : Shared}
/-- the abstract heap with nothing but the tables -/
def tabH (cs : List (Addr × Addr)) : Hp := fun b => if b ∈ cs.map (·.2) then some (.tbl #[]) else none
theorem tabH_in {p : Addr × Addr} (h : p ∈ cs) : tabH cs p.2 = some (.tbl #[]) := if_pos (List.mem_map.mpr ⟨p, h, rfl⟩)
theorem tabH_out {b : Addr} (h : b ∉ cs.map (·.2)) : tabH cs b = none := if_neg h
/-- from a heap in which lists and empty tables alone may be tracked, none of them of K -/
theorem law_from {H : Hp} {fa a : Addr} {k : Nat} {fd : FuncData} {x : Str} {sp : Sp} {ns : List Int} (kin : K.In st.heap) (gn : st.heap.Ns mainGlobals mg) (bn : st.heap.Ns builtinsNs mb) (bb : ∀ y : Str, y ≠ "__name__" → mb y = bootBuiltins y) (lim : st.heap.NoLimit) (gens : st.gens = #[])
    (emp : ∀ p ∈ cs, st.heap.get? p.2 = some { cls := .none, data := .fields #[] }) (cod : ∀ p ∈ cs, PySem.W.CodeHd st.heap p.1 p.2)
    (bm : ∃ (m : Addr) (o : Obj), mg "__builtins__" = some (.ref m) ∧ m ≠ builtinsNs ∧ st.heap.get? m = some o ∧ o.cls = .type "module" ∧ o.dict = some builtinsNs ∧ o.data = .plain)
    (tH : ∀ p ∈ cs, H p.2 = some (.tbl #[])) (kinds : ∀ b, H b = none ∨ b ∈ cs.map (·.2) ∨ ∃ o xs, H b = some (.frz o (.lst xs))) (hok : HOk P w H st.heap)
    (seen : ∀ b o, st.heap.get? b = some o → H b ≠ none → (∃ vs n, o.data = .seq vs n) ∨ o.data = .fields #[]) (outK : ∀ b, H b ≠ none → K.lookup b = none)
    (room : Room k callerA) (F : ∀ base : Heap, K.In base → base.Ns mainGlobals mg → (∀ p ∈ cs, LamX.TabB base mg p.1 p.2) → FnG P w K mg base k fa fd [x] sp) (bind : ∀ (s : Shared) (u : Value), BindsTo s fd ⟨[u], []⟩ [(x, u)])
    (h : sp [.ref a] H (fun v _ => v = .bl true) fun _ _ _ => False) :
    codeAny (model P w) callerA (.call (.ref fa) ⟨[.ref a], []⟩) (fun r s' => r = .ok (.ret (.bool true)) ∧ OldK st.heap s'.heap ∧ s'.os = st.os ∧ AllBare s'.gens) st := by
  have free : ∀ {b : Addr} {o : Obj}, st.heap.get? b = some o → (∀ vs n, o.data ≠ .seq vs n) → o.data ≠ .fields #[] → H b = none := fun {b o} e n1 n2 => by
    refine Classical.byContradiction fun c => ?_
    rcases seen b o e c with ⟨vs, n, q⟩ | q
    · exact n1 vs n q
    · exact n2 q
  have sees : ∀ {b : Addr} {o : Obj}, st.heap.get? b = some o → (∀ vs n, o.data ≠ .seq vs n) → o.data ≠ .fields #[] → (hidT st.heap H).get? b = some o := fun e n1 n2 => hidT_get e (free e n1 n2)
  have names : ∀ {b : Addr} {m : Str → Option Value}, st.heap.Ns b m → (hidT st.heap H).Ns b m := fun ⟨o, es, ep, e, d, r⟩ =>
    ⟨o, es, ep, sees e (fun _ _ q => by rw [d] at q; cases q) (fun q => by rw [d] at q; cases q), d, r⟩
  have kin2 : K.In (hidT st.heap H) := fun b o e => hidT_get (kin b o e) (Classical.byContradiction fun c => by rw [outK b c] at e; cases e)
  have modul : L2.Mod K mg (hidT st.heap H) := ⟨kin2, names gn, ⟨mb, names bn, bb⟩, let ⟨mc, l1, l2⟩ := lim; ⟨mc, names l1, l2⟩⟩
  have tabs : ∀ p ∈ cs, LamX.TabB (hidT st.heap H) mg p.1 p.2 := fun p hp => by
    have ep := emp p hp
    have nG : ∀ {c : Addr} {m : Str → Option Value}, st.heap.Ns c m → ∀ {o : Obj}, st.heap.get? c = some o → ∃ es n, o.data = .dict es n := fun {c m} ns {o'} e' => by
      obtain ⟨o, es, n, e, d, _⟩ := ns
      rw [e] at e'
      cases e'
      exact ⟨es, n, d⟩
    refine ⟨?_, ?_, fun z => ?_⟩
    · obtain ⟨o, us, file, tf, flags, tg, inF, text, tt, e1, r1, r2, r3, rest⟩ := cod p hp
      refine ⟨o, us, file, tf, flags, tg, inF, text, tt, sees e1 (fun _ _ q => by rw [r2] at q; cases q) (fun q => ?_), r1, r2, r3, rest⟩
      rw [r2] at q
      cases q
      simp at r3
    · obtain ⟨m, o, b1, b2, b3, b4, b5, b6⟩ := bm
      refine ⟨m, o, b1, b2, fun q => ?_, fun q => ?_, sees b3 (fun _ _ q => by rw [b6] at q; cases q) (fun q => by rw [b6] at q; cases q), b4, b5, b6⟩
      · obtain ⟨es, n, d⟩ := nG gn (q ▸ b3)
        rw [b6] at d
        cases d
      · rw [q, ep] at b3
        cases b3
        cases b6
    · obtain ⟨es, n, d⟩ := nG gn (z ▸ ep)
      cases d
  have start : Env0 P w K mg (hidT st.heap H) callerA [] st H := ⟨rfl, modul, fun _ _ e => of_hidT e, Nat.le_of_eq (hidT_size _ _), trivial, fun b q => (by cases q), hok, .of_eq gens⟩
  refine codeAny_mono ((F _ kin2 (names gn) tabs).run callerA [] st H ⟨[.ref a], []⟩ [.ref a] [.ref a] _ _ rfl room start (bind st (.ref a)) (.cons rfl .nil) h) fun r s' q => ?_
  match r, q with
  | .error e, q => exact (by obtain ⟨_, _, _, _, _, _, _, _, _, _, _, _, z⟩ := q; exact z.elim)
  | .ok .next, q => exact q.elim
  | .ok .brk, q => exact q.elim
  | .ok .cont, q => exact q.elim
  | .ok (.ret u), q =>
    obtain ⟨v, H', os, bare, un, hok', rv, ev⟩ := q
    obtain rfl : v = .bl true := ev
    obtain rfl : u = Value.bool true := rv
    have same : ∀ b o, b ∉ cs.map (·.2) → st.heap.get? b = some o → s'.heap.get? b = some o := fun b o nb e => by
      rcases kinds b with z | z | ⟨ob, xs, z⟩
      · exact un.keep b o e z (fun y => by cases y) (fun y => by cases y)
      · exact absurd z nb
      · have e1 := (hok b _ z).1
        have e2 := (hok' b _ (un.frzs b ob _ z)).1
        rw [e] at e1
        rw [e2, e1]
    have more : ∀ p ∈ cs, ∃ us : Array Value, s'.heap.get? p.2 = some { cls := .none, data := .fields us } := fun p hp => by
      obtain ⟨us, z⟩ := un.tbls p.2 #[] (tH p hp)
      exact ⟨_, hok' p.2 _ z⟩
    refine ⟨rfl, ⟨fun b o e => ?_, fun b o e => ?_⟩, os, bare⟩
    · by_cases hb : b ∈ cs.map (·.2)
      · obtain ⟨p, hp, rfl⟩ := List.mem_map.mp hb
        obtain ⟨us, hu⟩ := more p hp
        rw [emp p hp] at e
        cases e
        exact .inr (.inl ⟨((cod p hp).tab (emp p hp)).isCodeTable, rfl, #[], us, rfl, by rw [Array.empty_append]; exact hu⟩)
      · exact .inl (same b o hb e)
    · by_cases hb : b ∈ cs.map (·.2)
      · obtain ⟨p, hp, rfl⟩ := List.mem_map.mp hb
        obtain ⟨us, hu⟩ := more p hp
        exact ⟨_, hu⟩
      · exact ⟨o, same b o hb e⟩
/-- the law called with its script -/
theorem law_with {fa a : Addr} {k : Nat} {fd : FuncData} {x : Str} {sp : Sp} {ns : List Int} {us : List Value} (kin : K.In st.heap) (gn : st.heap.Ns mainGlobals mg) (bn : st.heap.Ns builtinsNs mb) (bb : ∀ y : Str, y ≠ "__name__" → mb y = bootBuiltins y) (lim : st.heap.NoLimit) (gens : st.gens = #[])
    (emp : ∀ p ∈ cs, st.heap.get? p.2 = some { cls := .none, data := .fields #[] }) (nK : ∀ p ∈ cs, K.lookup p.2 = none) (cod : ∀ p ∈ cs, PySem.W.CodeHd st.heap p.1 p.2)
    (bm : ∃ (m : Addr) (o : Obj), mg "__builtins__" = some (.ref m) ∧ m ≠ builtinsNs ∧ st.heap.get? m = some o ∧ o.cls = .type "module" ∧ o.dict = some builtinsNs ∧ o.data = .plain)
    (obj : st.heap.get? a = some { cls := .type "list", data := .seq us.toArray }) (isI : IntsAre us ns) (len : ns.length ≤ sizeLine)
    (room : Room k callerA) (F : ∀ base : Heap, K.In base → base.Ns mainGlobals mg → (∀ p ∈ cs, LamX.TabB base mg p.1 p.2) → FnG P w K mg base k fa fd [x] sp) (bind : ∀ (s : Shared) (u : Value), BindsTo s fd ⟨[u], []⟩ [(x, u)])
    (h : ∀ H : Hp, (∀ p ∈ cs, H p.2 = some (.tbl #[])) → SqL K H a (ns.map V.int) → sp [.ref a] H (fun v _ => v = .bl true) fun _ _ _ => False) :
    codeAny (model P w) callerA (.call (.ref fa) ⟨[.ref a], []⟩) (fun r s' => r = .ok (.ret (.bool true)) ∧ OldK st.heap s'.heap ∧ s'.os = st.os ∧ AllBare s'.gens) st := by
  have vals := vals_ints isI
  have nA : a ∉ cs.map (·.2) := fun z => by
    obtain ⟨p, hp, e⟩ := List.mem_map.mp z
    have q := emp p hp
    rw [e, obj] at q
    cases congrArg Obj.data (Option.some.inj q)
  have atT : ∀ {b : Addr}, b ∈ cs.map (·.2) → st.heap.get? b = some { cls := .none, data := .fields #[] } ∧ K.lookup b = none := fun {b} z => by
    obtain ⟨p, hp, rfl⟩ := List.mem_map.mp z
    exact ⟨emp p hp, nK p hp⟩
  have onT : ∀ {b : Addr}, tabH cs b ≠ none → b ∈ cs.map (·.2) := fun {b} c => Classical.byContradiction fun z => c (tabH_out z)
  cases inK : K.lookup a with
  | some o =>
    have e := kin a o inK
    rw [obj] at e
    cases e
    refine law_from (H := tabH cs) (ns := ns) kin gn bn bb lim gens emp cod bm (fun p => tabH_in) (fun b => ?_) (fun b u z => ?_) (fun b o e c => .inr ?_) (fun b c => (atT (onT c)).2) room F bind
      (h _ (fun p => tabH_in) (.inr ⟨_, us.toArray, _, inK, rfl, rfl, rfl, by rw [List.size_toArray, isI.length]; exact len, by simpa using vals⟩))
    · by_cases z : b ∈ cs.map (·.2)
      · exact .inr (.inl z)
      · exact .inl (tabH_out z)
    · have z2 := onT (b := b) (by rw [z]; exact fun e => nomatch e)
      have z3 : tabH cs b = some (.tbl #[]) := if_pos z2
      rw [z] at z3
      cases z3
      exact (atT z2).1
    · rw [(atT (onT c)).1] at e
      cases e
      rfl
  | none =>
    have sees : (fun b => if b = a then some (HO.frz { cls := .type "list", data := .seq us.toArray } (.lst (ns.map V.int))) else tabH cs b) a = some (.frz { cls := .type "list", data := .seq us.toArray } (.lst (ns.map V.int))) := if_pos rfl
    have off : ∀ {b : Addr}, b ≠ a → (fun b => if b = a then some (HO.frz { cls := .type "list", data := .seq us.toArray } (.lst (ns.map V.int))) else tabH cs b) b = tabH cs b := fun n => if_neg n
    have tabs : ∀ p ∈ cs, (fun b => if b = a then some (HO.frz { cls := .type "list", data := .seq us.toArray } (.lst (ns.map V.int))) else tabH cs b) p.2 = some (.tbl #[]) := fun p hp =>
      (off fun z => nA (by rw [← z]; exact List.mem_map.mpr ⟨p, hp, rfl⟩)).trans (tabH_in hp)
    refine law_from (H := fun b => if b = a then some (HO.frz { cls := .type "list", data := .seq us.toArray } (.lst (ns.map V.int))) else tabH cs b) (ns := ns) kin gn bn bb lim gens emp cod bm tabs (fun b => ?_) (fun b u z => ?_) (fun b o e c => ?_) (fun b c => ?_) room F bind (h _ tabs (.inl (.inr ⟨_, sees⟩)))
    · by_cases n : b = a
      · exact .inr (.inr ⟨_, _, by rw [n]; exact sees⟩)
      · by_cases z : b ∈ cs.map (·.2)
        · exact .inr (.inl z)
        · exact .inl ((off n).trans (tabH_out z))
    · by_cases n : b = a
      · rw [n] at z ⊢
        have z2 := sees.symm.trans z
        cases z2
        exact ⟨obj, by rw [List.length_map]; exact len, us, _, vals, obj⟩
      · have z1 := (off n).symm.trans z
        have z2 := onT (b := b) (by rw [z1]; exact fun e => nomatch e)
        have z3 : tabH cs b = some (.tbl #[]) := if_pos z2
        rw [z1] at z3
        cases z3
        exact (atT z2).1
    · by_cases n : b = a
      · rw [n, obj] at e
        cases e
        exact .inl ⟨_, _, rfl⟩
      · have z2 := onT (b := b) (fun q => c ((off n).trans q))
        rw [(atT z2).1] at e
        cases e
        exact .inr rfl
    · by_cases n : b = a
      · rw [n]; exact inK
      · exact (atT (onT (b := b) (fun q => c ((off n).trans q)))).2
end
/-- what the law's top must give -/
def LawG (l : PySem.W.OpenLaw) (w : World) (K : PySem.W.Frag) (k n : Nat) (x : Str) (mg : Str → Option Value) (fa : Addr) (h : Heap) : Prop :=
  ∃ (fd : FuncData) (cs : List (Addr × Addr)) (sp : Sp), (∀ p ∈ cs, h.get? p.2 = some { cls := .none, data := .fields #[] }) ∧ (∀ p ∈ cs, K.lookup p.2 = none) ∧ (∀ p ∈ cs, PySem.W.CodeHd h p.1 p.2) ∧ (∀ (s : Shared) (u : Value), BindsTo s fd ⟨[u], []⟩ [(x, u)]) ∧
    (∀ (H : Hp) (a : Addr) (ns : List Int), ns.length ≤ n → (∀ z ∈ ns, Builtin.Int.intBits z ≤ 1048576) → (∀ p ∈ cs, H p.2 = some (.tbl #[])) → SqL K H a (ns.map V.int) → sp [.ref a] H (fun v _ => v = .bl true) fun _ _ _ => False) ∧
    ∀ base : Heap, K.In base → base.Ns mainGlobals mg → (∀ p ∈ cs, LamX.TabB base mg p.1 p.2) → FnG l.prog w K mg base k fa fd [x] sp
theorem walk_G {l : PySem.W.OpenLaw} {n k : Nat} {q : Program} {loose : List Str} {XP : (Str → Option Value) → Heap → Prop} {YP : World → Heap → Prop} {d : DefRec} {x : Str} (hn : l.most = some n) (hn2 : n ≤ sizeLine) (hdf : d.params.defaults = []) (hr : Room k callerA)
    (F : ∀ (w : World) (mg : Str → Option Value) (fa : Addr) (h : Heap), YP w h → h.Ns mainGlobals mg → mg d.name = some (.ref fa) → ∃ K : PySem.W.Frag, K.In h ∧ LawG l w K k n x mg fa h) :
    PySem.W.WalkO q loose XP YP l.row.toRowW d [] (fun f vs => PySem.call f vs) := by
  refine Att.attach_callB hn hdf fun w s₀ st mg mb fa o pm cd doc a us ns G Y ho hd hcd hmg obj isI len bits hg => ?_
  obtain ⟨K, kin, fd, cs, sp, t1, t2, t3, b, h, FF⟩ := F w mg fa _ Y G.T.g hmg
  exact law_with kin G.T.g G.T.b G.T.builtins G.T.nolimit hg t1 t2 t3 G.T.bmain obj isI (Nat.le_trans len hn2) hr FF b fun H tH hS => h H a ns len bits tH hS
end PB

/-! PI: an own exception whose __init__ says super().__init__(x) and self.x = x. -/
namespace PB
open PySem PySem.Spec L2
open PyProof.Rows hiding St
/-- the body of such an __init__ -/
def iniBody (f : Str) (p0 p1 p2 p3 p4 p5 p6 p7 p8 p9 : Pos) : List Stmt :=
  [.Expr (.Call (.Attribute (.Call (.Name "super" p0) [] [] p1) "__init__" p2) [.Name f p3] [] p4) p5, .Assign [.Attribute (.Name "self" p6) f p7] (.Name f p8) p9]
/-- what K tells of the class at C and its __init__ at fI -/
structure IniC (P : Program) (K : PySem.W.Frag) (C fI : Addr) (f : Str) (fd : FuncData) (q : Str) (sc : Scope) (c : Addr) : Prop where
  oex : OexC K C
  fn : ∃ oc od osl, K.lookup fI = some ⟨oc, od, .func fd, osl⟩
  code : PySem.W.codeIn K fd.code q = true
  file : ∃ cda ccl cdd ccs vs file tf, fd.code = .ref cda ∧ K.lookup cda = some ⟨ccl, cdd, .fields vs, ccs⟩ ∧ vs[2]? = some (.str file tf) ∧ ((P.main.file : Str) == file) = true
  top : (P.main.scope.names.lookup ("super" : Str)).isSome = false
  cell : ∃ cl cld csl, K.lookup c = some ⟨cl, cld, .cell (some (.ref C)), csl⟩
  clo : fd.closure = [(("__class__" : Str), c)]
  qual : fd.qualname = q
  scope : fd.scope = sc
  bi : fd.builtins = builtinsNs
  gl : fd.globals = mainGlobals
  dfl : fd.defaults = .none
  kwd : fd.kwdefaults = .none
  sub : PySem.W.mroIn K C (.ref C) = some true
  subV : PySem.W.subIn K (.ref C) (.type "ValueError") = some true
  sup : PySem.W.ks_superIn K C C "__init__" = some (some (.builtin "ValueError.__init__"))
  stat : PySem.W.nsIn K cStatics "thirdparty.any" = some none
  nof : PySem.W.findIn K (.ref C) f = some none
  nosup : PySem.W.nsIn K mainGlobals "super" = some none
/-- the scope of such an __init__ -/
structure IniS (f : Str) (sc : Scope) : Prop where
  kind : sc.kind = .function
  co : sc.isCoroutine = false
  gen : sc.isGenerator = false
  nc : ∀ x ∈ sc.names, x.2 ≠ .cell
  self : sc.names.lookup ("self" : Str) = some .local
  par : sc.names.lookup f = some .local
  sup : sc.names.lookup ("super" : Str) = some .globalImplicit
  cls : sc.names.lookup ("__class__" : Str) = some .free
  ne : f ≠ "self"
/-- the promise of such an __init__ -/
def spIni (C : Addr) (f : Str) : Sp := fun vs H Q _ => ∃ a y, vs = [.ref a, y] ∧ H a = some (exo a C none) ∧ ∀ dx, H dx = none → dx ≠ a → Q .non (upd (upd H dx (exd dx [(f, y)])) a (exo a C (some dx)))
section
variable {prog : Program} {w : World} {A : Around} {E : Value → Shared → Prop} {s : Shared}
/-- the wrapper of ValueError.__init__ called: the object's arguments are laid anew -/
theorem call_mw {u e C t0 : Addr} {rest : List Value} {Q : Value → Shared → Prop} {K : PySem.W.Frag} (hu : s.heap.get? u = some (PySem.W.kxs_mw "ValueError.__init__" e)) (T : OexC K C) (kin : K.In s.heap) (he : s.heap.get? e = some (PySem.HandSPX.excO C t0)) (hz : rest.length ≤ sizeLine)
    (hq : ∀ h' t1, (∀ b o, b ≠ e → s.heap.get? b = some o → h'.get? b = some o) → h'.get? e = some (PySem.HandSPX.excO C t1) → Q .none { s with heap := h' }) : wpAny (model prog w) A (call (.ref u) rest) Q E s := by
  obtain ⟨nm, q, N, bs, bm, sn, sub, ab, col, dd, k0, k1, k2, k3, k5, hC, hbm⟩ := T.cls
  have hC := kin _ _ hC
  obtain ⟨hh, g, d, tk, os⟩ := s
  refine wpAny_call (codeAny_of_tree ?_)
  show wpAny _ A.in1 (callAny (.ref u) ⟨rest, []⟩) _ _ _
  simp only [callAny]
  refine wpAny_bind (wpAny_load hu ?_)
  simp only [PySem.W.kxs_mw, show (Value.type "method-wrapper" == Value.type "method" || Value.type "method-wrapper" == Value.type "builtin_function_or_method" || Value.type "method-wrapper" == Value.type "method-wrapper") = true by decide, if_true]
  refine PySem.W.KFB.if_so (by decide) ?_
  refine wpAny_bind (PySem.W.check_bound_init F.excBase_ValueError.toExcCallFacts hC he rfl ?_)
  refine wpAny_bind (wpAny_pure (wpAny_pure ?_))
  refine ⟨plainId_quiet F.excBase_ValueError.init.plain _, codeAny_builtin F.excBase_ValueError.initEntry ?_⟩
  exact PySem.W.exc_init_tree (cls := .ref C) (t0 := t0) (dv := none) (c2 := .none) (c3 := .none) (b4 := .bool false) he hz fun h' k e' t' => hq h' _ k e'
end
section
variable {P : Program} {w : World} {K : PySem.W.Frag} {mg : Str → Option Value} {base : Heap} {C fI c : Addr} {f q : Str} {fd : FuncData} {sc : Scope} {k : Nat} {ar : Arg} {p0 p1 p2 p3 p4 p5 p6 p7 p8 p9 : Pos}
theorem ini_ok (I : IniC P K C fI f fd q sc c) (S : IniS f sc) (hb : fd.body = .stmts (iniBody f p0 p1 p2 p3 p4 p5 p6 p7 p8 p9)) (hp : (fd.params.posonlyargs ++ fd.params.args).head? = some ar) (hself : ar.arg = ("self" : Str)) (hd1 : (f == ("__debug__" : Str)) = false)
    (hmg : mg "super" = none) {pl : Env → Sem Bool}
    (he : ∀ env : Env, eval (.Call (.Attribute (.Call (.Name "super" p0) [] [] p1) "__init__" p2) [.Name f p3] [] p4) env = (do
      let ov ← attributeBase (.Call (.Name "super" p0) [] [] p1) "__init__" env (eval (.Call (.Name "super" p0) [] [] p1) env)
      standAt p2.atName
      let (g, first) ← holding [ov] (getMethod ov "__init__" (pl env))
      callWith p4 g first (backTo p4 (starEach [.Name f p3] env)) []))
    (hsw : ∀ env : Env, swapsWith (.Call (.Attribute (.Call (.Name "super" p0) [] [] p1) "__init__" p2) [.Name f p3] [] p4) none p5.line env = pure false)
    (hsw2 : ∀ env : Env, swapsWith (.Name f p8) (some (.Attribute (.Name "self" p6) f p7)) p9.line env = pure false) : FnOk P w K mg base (L2.CX P w) (k + 1) fI fd ["self", f] (spIni C f) := by
  obtain ⟨oc, od, osl, lk⟩ := I.fn
  obtain ⟨cda, ccl, cdd, ccs, vs0, file, tf, ecd, lcd, hvs, hfile⟩ := I.file
  obtain ⟨cl, cld, csl, lcell⟩ := I.cell
  refine ⟨fun vs H Q E h => ?_, fun A outer s H args us vs Q E hr e0 hbind hv h => ?_⟩
  · obtain ⟨a, y, rfl, _⟩ := h
    rfl
  obtain ⟨a, y, rfl, ha, cont⟩ := h
  obtain ⟨u0, u, rfl, r0, ry⟩ := vals2 hv
  obtain rfl : u0 = Value.ref a := r0
  have KX : K.In s.heap := e0.mod.kin.keeps fun b o e => (e0.bs b o e).1
  have lim : s.heap.NoLimit := e0.mod.nolimit.keeps fun b o e => (e0.bs b o e).1
  have gn : s.heap.Ns mainGlobals mg := e0.mod.glob.keeps fun b o e => (e0.bs b o e).1
  obtain ⟨mb, bn, bb⟩ := e0.mod.blt
  have bn : s.heap.Ns builtinsNs mb := bn.keeps fun b o e => (e0.bs b o e).1
  obtain ⟨t1, hax⟩ := exo_at e0.hok ha
  obtain ⟨n1, n2, n3, n4, n5, n6, n7, n8, n9, n10, n11, n12, n13, n14, n15⟩ := fd
  have h2 := I.qual
  have h4 := I.scope
  have h7 := I.clo
  have h6 := I.gl
  have h15 := I.bi
  have hcode := I.code
  dsimp only at hb hp h2 h4 h7 h6 h15 ecd hcode
  subst h2 h4 h7 h6 h15 ecd hb
  refine ks_codeAny_call_defAt hr.depth (KX _ _ lk) rfl lim (PySem.W.codeRec_of KX hcode) rfl hbind S.nc (fun z hz => ?_) (fun h0 hns keep0 => ?_) S.co S.gen S.kind
  · have hz : z ∈ [(("self" : Str), Value.ref a), (f, u)] := hz
    simp only [List.mem_cons, List.not_mem_nil, or_false] at hz
    rcases hz with rfl | rfl
    · exact S.self
    · exact S.par
  have ns1 : h0.Ns s.heap.objs.size (fun x => [(f, u), (("self" : Str), Value.ref a)].lookup x) := hns
  have lself : [(f, u), (("self" : Str), Value.ref a)].lookup ("self" : Str) = some (.ref a) := by
    have : (("self" : Str) == f) = false := by
      have := S.ne
      simp only [beq_eq_false_iff_ne, ne_eq]
      exact fun e => this e.symm
    rw [List.lookup_cons, this]; rfl
  have lpar : [(f, u), (("self" : Str), Value.ref a)].lookup f = some u := by
    rw [List.lookup_cons, beq_self_eq_true]
  have X0 : K.In h0 := KX.keeps keep0
  generalize hfd : (FuncData.mk n1 n2 n3 (.stmts (iniBody f p0 p1 p2 p3 p4 p5 p6 p7 p8 p9)) n5 mainGlobals [(("__class__" : Str), c)] n8 n9 n10 n11 n12 (.ref cda) n14 builtinsNs) = fd at *
  have kd : (callEnv fd s.heap.objs.size fI).scope.kind = .function := by rw [← hfd]; exact S.kind
  have inter : interactive (callEnv fd s.heap.objs.size fI) = false := by
    unfold interactive
    rw [kd]; rfl
  have ksup : (callEnv fd s.heap.objs.size fI).kindOf "super" = some .globalImplicit := by rw [← hfd]; exact S.sup
  have kcls : (callEnv fd s.heap.objs.size fI).kindOf "__class__" = some .free := by rw [← hfd]; exact S.cls
  have kself : (callEnv fd s.heap.objs.size fI).kindOf "self" = some .local := by rw [← hfd]; exact S.self
  have kpar : (callEnv fd s.heap.objs.size fI).kindOf f = some .local := by rw [← hfd]; exact S.par
  have efun : (callEnv fd s.heap.objs.size fI).func = some fI := by rw [← hfd]; rfl
  have ecode : (callEnv fd s.heap.objs.size fI).code = .ref cda := by rw [← hfd]; rfl
  have ecell : (callEnv fd s.heap.objs.size fI).cells.lookup ("__class__" : Str) = some c := by rw [← hfd]; rfl
  have eloc : (callEnv fd s.heap.objs.size fI).locals = s.heap.objs.size := by rw [← hfd]; rfl
  have eglo : (callEnv fd s.heap.objs.size fI).globals = mainGlobals := by rw [← hfd]; rfl
  have eblt : (callEnv fd s.heap.objs.size fI).builtins = builtinsNs := by rw [← hfd]; rfl
  have hps : (fd.params.posonlyargs ++ fd.params.args).head? = some ar := by rw [← hfd]; exact hp
  generalize callEnv fd s.heap.objs.size fI = env at *
  obtain ⟨nmC, qC, NC, bsC, bmC, snC, subC, abC, colC, ddC, k0, k1, k2, k3, k5, lC, hbm⟩ := I.oex.cls
  have hcl : PySem.W.clsIn K C = some { name := nmC, bases := bsC, mro := .ref C :: bmC, ns := NC, qualname := qC, hasDict := true, slotNames := snC, subclasses := subC, abstract := abC, collection := colC, hasDel := false } := by
    unfold PySem.W.clsIn; rw [lC] <;> rfl
  have ha0 := keep0 _ _ hax
  refine ks_wpAt_execs_cons (ks_wpAt_Expr_any (ks_wpAt_MethodCall (ks_wpAt_super_base ksup kcls (by decide) efun (X0 _ _ lk) rfl hps ecode (X0 _ _ lcd) rfl hvs hfile I.top ?_) (he _)) inter (hsw _))
  refine PySem.W.ks_loadName_global kd ksup (PySem.Calls.loadGlobal_builtin (by rw [eglo]; exact gn.keeps keep0) hmg (by rw [eblt]; exact bn.keeps keep0) ((bb _ (by decide)).trans (by decide +kernel : bootBuiltins "super" = some (.type "super"))) ⟨rfl, ?_⟩)
  refine wpAny_loadName_free kd kcls ecell ⟨_, X0 _ _ lcell, rfl⟩ ?_
  refine wpAny_loadName_local kd (by rw [hself]; exact kself) (by rw [eloc]; exact ns1) (by rw [hself]; exact lself) ?_
  refine ks_wpAny_isType_cls (X0 _ _ lC) rfl ⟨rfl, ?_⟩
  obtain ⟨hs, g0, d0, tk0, os0⟩ := s
  refine ks_wpAny_call_super (X0 _ _ lC) rfl ha0 rfl (fun c' e' => by cases e') (PySem.W.looks_mroIn X0 I.sub) (fun h1 hso keep1 => ?_)
  have X1 : K.In h1 := X0.keeps keep1
  have ha1 := keep1 _ _ ha0
  have sup2 : PySem.W.alongIn K "__init__" (((Value.ref C :: bmC).dropWhile (· != .ref C)).drop 1) = some (some (.builtin "ValueError.__init__")) := by
    have := I.sup
    unfold PySem.W.ks_superIn at this
    rw [hcl] at this
    exact this
  refine PySem.W.kxs_getMethod PySem.W.kxs_ValueError hso (PySem.W.looks_opaque X1 I.stat) (l₀ := .ref C :: bmC) (fun A Q E s k q => wpAny_bind ((PySem.W.looks_clsIn X1 hcl) A _ E s k (wpAny_pure q))) rfl X1 sup2
    ((show PySem.W.InstAt h1 a _ C none from ⟨ha1, rfl, rfl, trivial⟩).type.andThen (PySem.W.looks_subIn X1 I.subV)) (fun e' => ?_) (by decide) ?_
  · rw [e'] at ha1
    rw [X1 _ _ lC] at ha1
    cases ha1
  have X2 : K.In (h1.push (PySem.W.kxs_mw "ValueError.__init__" a)) := X1.keeps fun b o e' => Heap.get?_push_of_some _ e'
  have hu : (h1.push (PySem.W.kxs_mw "ValueError.__init__" a)).get? h1.objs.size = some (PySem.W.kxs_mw "ValueError.__init__" a) := Heap.get?_push_at rfl rfl
  have keep2 : ∀ b o, hs.get? b = some o → (h1.push (PySem.W.kxs_mw "ValueError.__init__" a)).get? b = some o := fun b o e' => Heap.get?_push_of_some _ (keep1 _ _ (keep0 _ _ e'))
  have ns2 : (h1.push (PySem.W.kxs_mw "ValueError.__init__" a)).Ns hs.objs.size (fun x => [(f, u), (("self" : Str), Value.ref a)].lookup x) := ns1.keeps fun b o e' => Heap.get?_push_of_some _ (keep1 _ _ e')
  show wpAny _ _ (callWith p4 (.ref h1.objs.size) [] ((false, eval (.Name f p3) env) :: backTo p4 (starEach [] env)) []) _ _ _
  refine PySem.W.kxs_callWith (i := "ValueError.__init__") (x := a) rfl (PySem.Calls.evalArgs_plain (PySem.Calls.spliced_cons (wpAny_Name (wpAny_loadName_local kd kpar (by rw [eloc]; exact ns2) lpar (PySem.Calls.spliced_nil ⟨hu, ?_⟩)) hd1)))
  refine call_mw hu I.oex X2 (Heap.get?_push_of_some _ ha1) (show 1 ≤ sizeLine by decide) (fun h3 t3 keep3 ha3 => ?_)
  have nC : C ≠ a := fun e' => by
    have z := X2 _ _ lC
    rw [e', Heap.get?_push_of_some _ ha1] at z
    cases z
  have nL : hs.objs.size ≠ a := Nat.ne_of_gt (Heap.lt_size hax)
  have X3 : K.In h3 := fun b o e' => keep3 b o (fun z => by
    rw [z] at e'
    have z2 := (e0.bs a _ (e0.mod.kin _ _ e')).2
    rw [ha] at z2
    cases z2) (X2 b o e')
  have ns3 : h3.Ns hs.objs.size (fun x => [(f, u), (("self" : Str), Value.ref a)].lookup x) := ns2.at fun o e' => keep3 _ o nL e'
  refine ks_wpAt_execs_cons (ks_wpAt_Assign_Attr (wpAt_of_wpAny (wpAny_Name (wpAny_loadName_local kd kpar (by rw [eloc]; exact ns3) lpar (wpAny_Name (wpAny_loadName_local kd kself (by rw [eloc]; exact ns3) lself ?_) (by decide))) hd1)) (hsw2 _))
  refine PySem.W.set_plain X3 (ox := PySem.HandSPX.excO C t3) (od := none) ⟨ha3, rfl, rfl, trivial⟩ I.oex.sa ?_
  refine PySem.HandSPX.exc_osa X3 ha3 hcl (show PySem.HandSPX.refsVE (.ref C :: bmC) = true from hbm) rfl I.nof (fun h4 tk4 dx keep4 dn dne ha4 hn4 => ?_)
  refine wpAt_of_wpAny (wpAny_execs_nil ?_)
  have hsz : hs.objs.size ≤ dx := by
    have l1 : h1.objs.size < h3.objs.size := by
      obtain ⟨o, ho⟩ : ∃ o, h3.get? h1.objs.size = some o := by
        by_cases z : h1.objs.size = a
        · exact ⟨_, by rw [z]; exact ha3⟩
        · exact ⟨_, keep3 _ _ z hu⟩
      exact Heap.lt_size ho
    have l2 : hs.objs.size ≤ h1.objs.size := by
      obtain ⟨oL, _, _, hL, _⟩ := ns1
      exact Nat.le_of_lt (Heap.lt_size (keep1 _ _ hL))
    have l3 : h3.objs.size ≤ dx := dn
    omega
  have nd : H dx = none := e0.hok.fresh hsz
  have nda : ∀ {b : Addr} {o : Obj}, hs.get? b = some o → b ≠ dx := fun {b o} z => Nat.ne_of_lt (Nat.lt_of_lt_of_le (Heap.lt_size z) hsz)
  have na : ∀ {b : Addr}, H b = none → b ≠ a := fun {b} n z => by
    rw [z, ha] at n
    cases n
  have keep : ∀ b o, b ≠ a → hs.get? b = some o → h4.get? b = some o := fun b o n z => keep4 b o n (keep3 b o n (keep2 b o z))
  refine ⟨.non, _, rfl, e0.bare, ⟨fun b o z n _ _ => keep b o (na n) z, fun b o z n _ _ => ⟨o.slots, keep b o (na n) z⟩, fun b o z n _ => by rw [upd_ne (na n), upd_ne (nda z)]; exact n, fun b o z _ => ?_, fun b xs z => ?_, fun b o v z => ?_, fun b ps z => ⟨#[], ?_⟩⟩, fun b o z => ?_, rfl, cont dx nd dne⟩
  · by_cases n : b = a
    · exact ⟨_, by rw [n]; exact ha4⟩
    · exact ⟨o, keep b o n z⟩
  · rw [upd_ne (at_ne ha z exo_tup), upd_ne (ne_of_none z nd)]; exact z
  · rw [upd_ne (at_ne ha z exo_frz), upd_ne (ne_of_none z nd)]; exact z
  · rw [upd_ne (at_ne ha z exo_tbl), upd_ne (ne_of_none z nd), z]; simp
  · by_cases n : b = a
    · rw [n, upd_same] at z
      cases z
      rw [n]
      exact exo_ok ha4
    · rw [upd_ne n] at z
      by_cases m : b = dx
      · rw [m, upd_same] at z
        cases z
        rw [m]
        exact exd_ok hn4 (relO_put (fs := []) ry fun g => True.intro)
      · rw [upd_ne m] at z
        exact (e0.hok b o z).stay (fun e v he' hz => keep e v (by
            rcases he' with he' | he'
            · rw [he']; exact n
            · exact at_ne ha he' exo_own) hz)
          (fun e he' => by rw [upd_ne (at_ne ha he' exo_own), upd_ne (ne_of_none he' nd)]; exact he') (fun e xs he' => by rw [upd_ne (at_ne ha he' exo_tup), upd_ne (ne_of_none he' nd)]; exact he')
end
end PB

/-! PH: the head tells own exceptions too; raising and catching them; a lambda that is called in a try. -/
namespace PB
open PySem PySem.Spec L2
open PyProof.Rows hiding St
/-- an own exception: its name, its field, its __init__ -/
structure IniD where
  x : Str
  f : Str
  params : Arguments
  body : List Stmt
  scope : Scope
abbrev IniW : Type := Option (Str × Arguments × FuncBody × Scope × Addr × List Str × Addr)
def clsA (K : PySem.W.Frag) (x : Str) : Addr := He.ga K x
def iniA (K : PySem.W.Frag) (x : Str) : Addr := He.ma K (He.ga K x) "__init__"
def iniW (K : PySem.W.Frag) (x : Str) : IniW := match K.lookup (iniA K x) with
  | some ⟨_, _, .func fd, _⟩ => some (fd.qualname, fd.params, fd.body, fd.scope, fd.globals, fd.closure.map (·.1), fd.builtins)
  | _ => none
def IniD.val (d : IniD) : IniW := some (d.x ++ ".__init__", d.params, .stmts d.body, d.scope, mainGlobals, ["__class__"], builtinsNs)
def oexB (K : PySem.W.Frag) (C : Addr) : Bool := (match K.lookup C with
  | some ⟨.type "type", _, .cls cd, sl⟩ => (match cd.mro, sl.toList with
    | .ref C' :: bm, [_, _, _, _, some (.builtin n), _] => C' == C && (n == "ValueError.__new__" && (!cd.hasDel && (cd.hasDict && PySem.HandSPX.refsVE bm)))
    | _, _ => false)
  | _ => false)
def cloB (K : PySem.W.Frag) (file q : Str) (C fI : Addr) : Bool := match K.lookup fI with
  | some ⟨_, _, .func fd, _⟩ => (PySem.W.codeIn K fd.code q && (decide (fd.defaults = .none) && decide (fd.kwdefaults = .none))) && ((match fd.code with
    | .ref c => (match K.lookup c with
      | some ⟨_, _, .fields vs, _⟩ => (match vs[2]? with
        | some (Value.str g _) => file == g
        | _ => false)
      | _ => false)
    | _ => false) && (match fd.closure with
    | [(_, c)] => (match K.lookup c with
      | some ⟨_, _, .cell (some (.ref D)), _⟩ => D == C
      | _ => false)
    | _ => false))
  | _ => false
def eqS (a b : Option (Option Value)) : Bool := decide (a = b)
/-- all that is asked of K for such a class -/
def iniB (P : Program) (K : PySem.W.Frag) (d : IniD) : Bool :=
  oexB K (clsA K d.x) && (cloB K P.main.file (d.x ++ ".__init__") (clsA K d.x) (iniA K d.x) && (!(P.main.scope.names.lookup ("super" : Str)).isSome && (decide (PySem.W.mroIn K (clsA K d.x) (.ref (clsA K d.x)) = some true) &&
  (decide (PySem.W.subIn K (.ref (clsA K d.x)) (.type "ValueError") = some true) && (eqS (PySem.W.ks_superIn K (clsA K d.x) (clsA K d.x) "__init__") (some (some (.builtin "ValueError.__init__"))) && (eqS (PySem.W.nsIn K cStatics "thirdparty.any") (some none) &&
  (eqS (PySem.W.findIn K (.ref (clsA K d.x)) d.f) (some none) && (eqS (PySem.W.nsIn K mainGlobals "super") (some none) && (eqS (PySem.W.findIn K (.ref (clsA K d.x)) "__setattr__") (some (some (.builtin "object.__setattr__"))) &&
  (decide (PySem.W.typeIn K (.ref (clsA K d.x)) = some (.type "type")) && (PySem.W.keepIn K (.ref (clsA K d.x)) && (xfB K (clsA K d.x) && (eqS (PySem.W.findIn K (.ref (clsA K d.x)) "__init__") (some (some (.ref (iniA K d.x)))) &&
  (decide (PySem.W.typeIn K (.ref (iniA K d.x)) = some (.type "function")) && (decide (PySem.W.exmOne K (.ref (clsA K d.x)) (.ref (clsA K d.x)) = some true) && eqS (PySem.W.nsIn K mainGlobals d.x) (some (some (.ref (clsA K d.x)))))))))))))))))))
theorem oexB_ok {K : PySem.W.Frag} {C : Addr} (h : oexB K C = true) : ∃ nm q N bs bm sn sub ab col dd k0 k1 k2 k3 k5, K.lookup C = some (excClassObj nm q C N bs bm true sn sub ab col dd k0 k1 k2 k3 k5 "ValueError.__new__") ∧ PySem.HandSPX.refsVE bm = true := by
  unfold oexB at h
  split at h
  · rename_i dd cd sl ho
    split at h
    · rename_i C' bm k0 k1 k2 k3 n k5 hm hs
      simp only [Bool.and_eq_true, beq_iff_eq, Bool.not_eq_true'] at h
      obtain ⟨rfl, rfl, hdel, hdict, hv⟩ := h
      obtain ⟨nm, bs, mro, ns, qn, hd, sn, sub, ab, col, del⟩ := cd
      dsimp only at hm hdel hdict
      subst hm hdel hdict
      obtain ⟨l⟩ := sl
      dsimp only at hs
      subst hs
      exact ⟨nm, qn, ns, bs, bm, sn, sub, ab, col, dd, k0, k1, k2, k3, k5, ho, hv⟩
    · cases h
  · cases h
/-- the facts of one class -/
structure IniF (P : Program) (K : PySem.W.Frag) (d : IniD) : Prop where
  ic : ∃ fd c, IniC P K (clsA K d.x) (iniA K d.x) d.f fd (d.x ++ ".__init__") d.scope c ∧ fd.params = d.params ∧ fd.body = .stmts d.body
  xf : XfC K (clsA K d.x)
  init : PySem.W.findIn K (.ref (clsA K d.x)) "__init__" = some (some (.ref (iniA K d.x)))
  tyI : PySem.W.typeIn K (.ref (iniA K d.x)) = some (.type "function")
  exm : PySem.W.exmOne K (.ref (clsA K d.x)) (.ref (clsA K d.x)) = some true
  glo : PySem.W.nsIn K mainGlobals d.x = some (some (.ref (clsA K d.x)))
theorem iniF_of {P : Program} {K : PySem.W.Frag} {d : IniD} (e : iniW K d.x = d.val) (h : iniB P K d = true) : IniF P K d := by
  unfold iniB at h
  simp only [Bool.and_eq_true, eqS, decide_eq_true_eq, Bool.not_eq_true'] at h
  obtain ⟨h1, h2, h3, h4, h5, h6, h7, h8, h9, h10, h11, h12, h13, h14, h15, h16, h17⟩ := h
  refine ⟨?_, xfB_ok h13, h14, h15, h16, h17⟩
  unfold iniW at e
  unfold cloB at h2
  split at e
  · rename_i oc od fd osl lk
    rw [lk] at h2
    obtain ⟨n1, n2, n3, n4, n5, n6, n7, n8, n9, n10, n11, n12, n13, n14, n15⟩ := fd
    unfold IniD.val at e
    simp only [Option.some.injEq, Prod.mk.injEq] at e
    obtain ⟨e1, e2, e3, e4, e5, e6, e7⟩ := e
    subst e1 e2 e3 e4 e5 e7
    simp only [Bool.and_eq_true, decide_eq_true_eq] at h2
    obtain ⟨⟨g1, d1, d2⟩, g2, g3⟩ := h2
    have file : ∃ cda ccl cdd ccs vs file tf, n13 = .ref cda ∧ K.lookup cda = some ⟨ccl, cdd, .fields vs, ccs⟩ ∧ vs[2]? = some (.str file tf) ∧ ((P.main.file : Str) == file) = true := by
      split at g2
      · rename_i c
        split at g2
        · rename_i ccl cdd vs ccs lc
          split at g2
          · rename_i file tf hv
            exact ⟨c, ccl, cdd, ccs, vs, file, tf, rfl, lc, hv, g2⟩
          · cases g2
        · cases g2
      · cases g2
    have clo : ∃ c, n7 = [(("__class__" : Str), c)] ∧ ∃ cl cld csl, K.lookup c = some ⟨cl, cld, .cell (some (.ref (clsA K d.x))), csl⟩ := by
      split at g3
      · rename_i y c
        split at g3
        · rename_i cl cld D csl lc
          simp only [List.map_cons, List.map_nil, List.cons.injEq, and_true] at e6
          have := beq_iff_eq.mp g3
          subst this
          exact ⟨c, by rw [e6], cl, cld, csl, lc⟩
        · cases g3
      · cases g3
    obtain ⟨c, c1, c2⟩ := clo
    have xf := xfB_ok h13
    exact ⟨_, c, ⟨⟨oexB_ok h1, h10, xf.exC, h11, h12⟩, ⟨oc, od, osl, lk⟩, g1, file, by simpa using h3, c2, c1, rfl, rfl, rfl, rfl, d1, d2, h4, h5, h6, h7, h8, h9⟩, rfl, rfl⟩
  · cases e
/-! ### the Hook -/
def asI (g : Addr → Option Obj) (n : Nat) : List Addr := He.asD g n ++ [cStatics]
abbrev AlI : Type := (He.AlT × Bool) × List IniW
def obsI (n : Nat) (fa : List He.Fa) (fn : List He.DefD) (ts : List He.Tab) (tf : List He.Defn) (is : List IniD) (ex : PySem.W.Frag → Bool) (g : Addr → Option Obj) : AlI :=
  ((He.obsT fa fn ts (He.frT g (asI g n)), ex (He.frT g (asI g n)) && He.tabsB g tf (He.frT g (asI g n))), is.map fun d => iniW (He.frT g (asI g n)) d.x)
def valI (fn : List He.DefD) (ts : List He.Tab) (is : List IniD) (w : World) : AlI := ((He.valT fn ts w, true), is.map IniD.val)
structure SaysI (fa : List He.Fa) (fn : List He.DefD) (ts : List He.Tab) (tf : List He.Defn) (is : List IniD) (ex : PySem.W.Frag → Bool) (w : World) (h : Heap) (K : PySem.W.Frag) : Prop where
  x : He.SaysX fa fn ts tf ex w h K
  ini : (is.map fun d => iniW K d.x) = is.map IniD.val
theorem saysI_of {n : Nat} {fa : List He.Fa} {fn : List He.DefD} {ts : List He.Tab} {tf : List He.Defn} {is : List IniD} {ex : PySem.W.Frag → Bool} {w : World} {h : Heap} (e : obsI n fa fn ts tf is ex h.get? = valI fn ts is w) :
    SaysI fa fn ts tf is ex w h (He.frT h.get? (asI h.get? n)) := by
  have e1 : He.obsT fa fn ts (He.frT h.get? (asI h.get? n)) = He.valT fn ts w := congrArg (fun z : AlI => z.1.1) e
  have e2 : (ex (He.frT h.get? (asI h.get? n)) && He.tabsB h.get? tf (He.frT h.get? (asI h.get? n))) = true := congrArg (fun z : AlI => z.1.2) e
  have e3 : (is.map fun d => iniW (He.frT h.get? (asI h.get? n)) d.x) = is.map IniD.val := congrArg (fun z : AlI => z.2) e
  rw [Bool.and_eq_true] at e2
  have at_ : ∀ p ∈ tf, PySem.W.codeHdIn (He.frT h.get? (asI h.get? n)) (He.cT (He.frT h.get? (asI h.get? n)) p).1 (He.cT (He.frT h.get? (asI h.get? n)) p).2 = true ∧ ∃ o, h.get? (He.cT (He.frT h.get? (asI h.get? n)) p).2 = some o ∧ He.emptyTab o = true := fun p hp => by
    have q := List.all_eq_true.mp e2.2 p hp
    rw [Bool.and_eq_true] at q
    refine ⟨q.1, ?_⟩
    have q2 := q.2
    split at q2
    · rename_i o ho
      exact ⟨o, ho, q2⟩
    · cases q2
  refine ⟨⟨e1, e2.1, fun p hp => (at_ p hp).1, fun p hp => ?_, fun p hp => ?_⟩, e3⟩
  · obtain ⟨_, o, ho, z⟩ := at_ p hp
    exact He.frT_none ho z
  · obtain ⟨_, o, ho, z⟩ := at_ p hp
    rw [ho, He.emptyTab_eq z]
def hookI (n : Nat) (fa : List He.Fa) (fn : List He.DefD) (ts : List He.Tab) (tf : List He.Defn) (is : List IniD) (ex : PySem.W.Frag → Bool) : PySem.W.Hook where
  α := AlI
  obs := fun s => obsI n fa fn ts tf is ex s.heap.get?
  val := fun w => valI fn ts is w
  says := fun w h => ∃ K : PySem.W.Frag, K.In h ∧ SaysI fa fn ts tf is ex w h K
  of := fun _ _ e => ⟨_, He.frT_in, saysI_of e⟩
  keeps := fun _ _ _ ⟨K, hK, c⟩ k => ⟨K, PySem.W.Frag.In.keeps hK k, ⟨⟨c.x.t, c.x.more, c.x.hd, c.x.out, fun p hp => k _ _ (c.x.empty p hp)⟩, c.ini⟩⟩
theorem obsI_eq {n : Nat} {fa : List He.Fa} {fn : List He.DefD} {ts : List He.Tab} {tf : List He.Defn} {is : List IniD} {ex : PySem.W.Frag → Bool} {g : Addr → Option Obj} {s : Shared} (h : ∀ a, g a = s.heap.get? a) : obsI n fa fn ts tf is ex g = (hookI n fa fn ts tf is ex).obs s := by
  have e : g = s.heap.get? := funext h
  rw [e]; rfl
theorem SaysI.iniF {P : Program} {fa : List He.Fa} {fn : List He.DefD} {ts : List He.Tab} {tf : List He.Defn} {is : List IniD} {ex : PySem.W.Frag → Bool} {w : World} {h : Heap} {K : PySem.W.Frag} (c : SaysI fa fn ts tf is ex w h K) (hex : ∀ K d, ex K = true → d ∈ is → iniB P K d = true) (i : Nat) {d : IniD} (hi : is[i]? = some d := by rfl) : IniF P K d := by
  have e2 : (is.map fun d => iniW K d.x)[i]? = (is.map IniD.val)[i]? := by rw [c.ini]
  rw [List.getElem?_map, List.getElem?_map, hi] at e2
  exact iniF_of (Option.some.inj e2) (hex K d c.x.more (List.mem_of_getElem? hi))
/-! ### raising -/
/-- the own exception by its name -/
def Own (P : Program) (w : World) (K : PySem.W.Frag) (mg : Str → Option Value) (base : Heap) (k : Nat) (x f : Str) : Prop :=
  mg x = some (.ref (clsA K x)) ∧ OexC K (clsA K x) ∧ PySem.W.findIn K (.ref (clsA K x)) "__init__" = some (some (.ref (iniA K x))) ∧ PySem.W.typeIn K (.ref (iniA K x)) = some (.type "function") ∧
    (XfC K (clsA K x) ∧ PySem.W.findIn K (.ref (clsA K x)) f = some none) ∧ PySem.W.exmOne K (.ref (clsA K x)) (.ref (clsA K x)) = some true ∧
    ∃ fd, FnOk P w K mg base (L2.CX P w) k (iniA K x) fd ["self", f] (spIni (clsA K x) f) ∧ Binds K fd ["self", f] []
theorem own_of {P : Program} {w : World} {K : PySem.W.Frag} {mg : Str → Option Value} {base : Heap} {d : IniD} {ar : Arg} {p0 p1 p2 p3 p4 p5 p6 p7 p8 p9 : Pos} {pl : Env → Sem Bool} (F : IniF P K d) (kin : K.In base) (gl : base.Ns mainGlobals mg) (S : IniS d.f d.scope)
    (hb : d.body = iniBody d.f p0 p1 p2 p3 p4 p5 p6 p7 p8 p9) (hp : (d.params.posonlyargs ++ d.params.args).head? = some ar) (hself : ar.arg = ("self" : Str)) (hd1 : (d.f == ("__debug__" : Str)) = false)
    (he : ∀ env : Env, eval (.Call (.Attribute (.Call (.Name "super" p0) [] [] p1) "__init__" p2) [.Name d.f p3] [] p4) env = (do
      let ov ← attributeBase (.Call (.Name "super" p0) [] [] p1) "__init__" env (eval (.Call (.Name "super" p0) [] [] p1) env)
      standAt p2.atName
      let (g, first) ← holding [ov] (getMethod ov "__init__" (pl env))
      callWith p4 g first (backTo p4 (starEach [.Name d.f p3] env)) []))
    (hsw : ∀ env : Env, swapsWith (.Call (.Attribute (.Call (.Name "super" p0) [] [] p1) "__init__" p2) [.Name d.f p3] [] p4) none p5.line env = pure false)
    (hsw2 : ∀ env : Env, swapsWith (.Name d.f p8) (some (.Attribute (.Name "self" p6) d.f p7)) p9.line env = pure false)
    (hbind : ∀ (n1 : Str) (c : Addr) (doc pm cd ct : Value) (an : Option Addr) (us : List Value), us.length = 2 → bindArgs (FuncData.mk n1 (d.x ++ ".__init__") d.params (.stmts d.body) d.scope mainGlobals [(("__class__" : Str), c)] .none .none doc pm an cd ct builtinsNs) ⟨us, []⟩ = pure ((["self", d.f] : List Str).zip us)) :
    Own P w K mg base 1 d.x d.f := by
  obtain ⟨fd, c, I, e1, e2⟩ := F.ic
  refine ⟨PySem.W.mg_of kin gl F.glo, I.oex, F.init, F.tyI, ⟨F.xf, I.nof⟩, F.exm, fd, ini_ok I S (by rw [e2, hb]) (by rw [e1]; exact hp) hself hd1 (PySem.W.mg_none_of kin gl I.nosup) he hsw hsw2, ?_⟩
  refine Binds.all fun us hl => ?_
  obtain ⟨n1, n2, n3, n4, n5, n6, n7, n8, n9, n10, n11, n12, n13, n14, n15⟩ := fd
  have h2 := I.qual
  have h4 := I.scope
  have h7 := I.clo
  have h6 := I.gl
  have h15 := I.bi
  have h8 := I.dfl
  have h9 := I.kwd
  dsimp only at e1 e2 h2 h4 h7 h6 h15 h8 h9
  subst e1 e2 h2 h4 h7 h6 h15 h8 h9
  exact hbind _ _ _ _ _ _ _ _ hl
/-- what a raise of it wants: the exception is new, its dict has the field -/
def mkQ (C : Addr) (f : Str) (R : XK) : VK := fun y H1 => [y].length ≤ 1000 ∧ ∀ a, H1 a = none → spIni C f (.ref a :: ([y] ++ [])) (upd H1 a (exo a C none))
  (fun v H2 => v = .non ∧ ∃ (d : Addr) (fs : List (Str × V)), H2 a = some (exo a C (some d)) ∧ H2 d = some (exd d fs) ∧ H1 d = none ∧ R (.ref C) (some d) (upd (del H2 a) d (.xd fs))) (fun _ _ _ => False)
def tRais (C : Addr) (f : Str) (te : TE) (W : WX) : TS := fun _ σ H => te σ H (mkQ C f fun cls d H' => W cls d σ H')
theorem r_rais {C : Addr} {f : Str} {te : TE} {W : WX} {D : Ends} {σ : St} {H : Hp} (h : te σ H (mkQ C f fun cls d H' => W cls d σ H')) : tRais C f te W D σ H := h
theorem r_mkQ {C : Addr} {f : Str} {R : XK} {y : V} {H : Hp} (h : ∀ d H', H d = none → Ex H H' → H' d = some (.xd [(f, y)]) → R (.ref C) (some d) H') : mkQ C f R y H := by
  refine ⟨(show 1 ≤ 1000 by decide), fun a ha => ⟨a, y, rfl, upd_same, fun dx hd hda => ⟨rfl, dx, [(f, y)], upd_same, ?_, ?_, h dx _ ?_ (fun b o hb => ?_) upd_same⟩⟩⟩
  · rw [upd_ne hda, upd_same]
  · rw [upd_ne hda] at hd
    exact hd
  · rw [upd_ne hda] at hd
    exact hd
  · rw [upd_ne hda] at hd
    have n1 : b ≠ dx := fun e => by rw [e, hd] at hb; cases hb
    have n2 : b ≠ a := fun e => by rw [e, ha] at hb; cases hb
    rw [upd_ne n1, del_ne n2, upd_ne n2, upd_ne n1, upd_ne n2]
    exact hb
theorem ps_own {X : Cx} {K : PySem.W.Frag} {W : WX} {k j : Nat} {x f : Str} {e : Expr} {te : TE} {p pos pos' : Pos} (eK : X.K = K) (O : Own X.prog X.w X.K X.mg X.base k x f) (hc : X.calm = true) (tk : Takes X W) (hr : Room j X.A) (hk : k + 1 ≤ j) (hx : Passes (L2.CX X.prog X.w) X fun _ _ _ => False) (he : PE X e te)
    (hg : Gl X x := by rfl) (hdb : (x == ("__debug__" : Str)) = false := by decide) (hs : starEach [e] X.env = [(false, eval e X.env)] := by rfl) :
    PS X (.Raise (some (.Call (.Name x p) [e] [] pos)) none pos') (tRais (clsA K x) f te W) := by
  subst eK
  obtain ⟨hm, T, iC, tI, _, _, fd, F, b⟩ := O
  exact ps_raise hc tk (pmk_oex (e := e) (es := []) T iC tI F (hr.mono hk) b .nil hx hg hm (pa_cons he pa_nil hs) hdb hs rfl)
/-! ### a lambda called in a try -/
/-- what it was: what the exception's field says, or ret -/
def TTref (C : Addr) (f ret : Str) : (XK → Hp → VK → Prop) → Hp → VK → Prop := fun tl H Q =>
  tl (fun cls d H' => cls = .ref C ∧ ∃ dd v, d = some dd ∧ H' dd = some (.xd [(f, v)]) ∧ Q v H') H fun _ H' => Q (.str ret) H'
theorem takes_len {X : Cx} {W : WX} {n : Nat} (hn : X.N.length = n) (t : Takes X W) : Takes X fun cls d σ H => σ.length = n → W cls d σ H := fun u s' ⟨a, B, sI, pins, σ, H, cls, d, e, I, nb, up, sky, na, os, ag, q⟩ =>
  t u s' ⟨a, B, sI, pins, σ, H, cls, d, e, I, nb, up, sky, na, os, ag, q (by rw [← hn]; exact I.len)⟩
theorem ref_gives {X : Cx} {x a e n f q ret : Str} {sg : Scope} {g CS : Addr} {cdg : Value} {j : Nat} {p1 p2 p3 p4 p5 p6 p7 p8 p9 p10 p11 : Pos} (hge : sg.names.lookup e = some .globalImplicit) (hme : X.mg e = some (.ref CS)) (hde : (e == ("__debug__" : Str)) = false)
    (T : XfC X.K CS) (hno : PySem.W.findIn X.K (.ref CS) f = some none) (hex : PySem.W.exmOne X.K (.ref CS) (.ref CS) = some true) (hnd : [a, n].Nodup) (hln : sg.names.lookup n = some .local) (hn1 : (n == ("__debug__" : Str)) = false) (hn2 : (n == ("__classdict__" : Str)) = false)
    (hb : ∀ env : Env, attributeBase (.Name n p5) f env (eval (.Name n p5) env) = eval (.Name n p5) env) (hsw : ∀ env : Env, swapsWith (.Call (.Name a p1) [] [] p2) none p3.line env = pure false) :
    LamX.GivesTo X [a, n] x sg g cdg [.Try [.Expr (.Call (.Name a p1) [] [] p2) p3] [.ExceptHandler (some (.Name e p4)) (some n) [.Return (some (.Attribute (.Name n p5) f p6)) p7] p8] [] [] p9, .Return (some (.Constant (.str ret) j p10)) p11] a q (TTref CS f ret) := by
  intro fa c' s H Q tl act hc h
  have hgl : Gl (cxOf C8.CX0 X.prog X.w X.K X.mg X.base [a, n] x sg g cdg X.A X.stack s H C8.E0).nox e := hge
  refine ⟨_, pss_cons (ps_try_as (X := (cxOf C8.CX0 X.prog X.w X.K X.mg X.base [a, n] x sg g cdg X.A X.stack s H C8.E0).nox) (c := .ref CS) (i := 1)
      (tb := fun W D σ H => ∃ Ech : XK, (∀ cls d σ' H', σ'.length = 2 → Ech cls d H' → W cls d σ' H') ∧ σ[0]? = some (some (.ref fa)) ∧ H c' = some (LamX.CodeO c' q) ∧ tl Ech H fun _ H' => D.nx σ H')
      rfl rfl hnd rfl hln ⟨hgl, hde, .inl hme⟩ LamX.takes0 (fun W pn xe tk _ => ?_) (fun b oe cls d pn hz hf => pss_one (ps_ret (pe_xf T hno hz hf (pe_var (i := 1) rfl (.inl hln) hn1 hn2) (hb _))))) (pss_one (ps_ret pe_str)), ?_⟩
  · refine ⟨fun pins s' σ H' D I h' => ?_⟩
    obtain ⟨Ech, hW, h1, h2, h3⟩ := h'
    have hp := act _ pn xe Ech p1 p2 (takes_len (n := 2) rfl tk) fun cls d σ' H' k l => hW cls d σ' H' l k
    exact (pss_one (ps_expr hp (hsw _))).run pins s' σ H' D I ⟨h1, h2, h3⟩
  · refine ⟨fun cls d H' => cls = .ref CS ∧ ∃ dd v, d = some dd ∧ H' dd = some (.xd [(f, v)]) ∧ Q v H', fun cls d σ' H' hl hE => ?_, rfl, hc, h⟩
    obtain ⟨rfl, dd, v, rfl, hd, hq⟩ := hE
    refine ⟨true, hex, fun _ b hb' => ?_, fun z => by cases z⟩
    match σ', hl with
    | [s0, s1], _ => exact ⟨.ref b, rfl, rfl, rfl, dd, [(f, v)], v, rfl, hd, by rw [List.lookup_cons, beq_self_eq_true], hq⟩
end PB

/-! PF: lambdas handed to a def that calls them in a try; keyword calls without a positional argument. -/
namespace PB
open PySem PySem.Spec L2
open PyProof.Rows hiding St
/-- heaps: all but the tables of code stands -/
abbrev ExN (H H' : Hp) : Prop := LamX.ExtN H H'
theorem ExN.of {H H' : Hp} (e : Ex H H') : ExN H H' := fun b o h _ => e b o h
theorem ExN.refl (H : Hp) : ExN H H := fun _ _ h _ => h
theorem ExN.tr {A B C : Hp} (a : ExN A B) (b : ExN B C) : ExN A C := fun x o h n => b x o (a x o h n) n
theorem sqT_exn {K : PySem.W.Frag} {H H' : Hp} {a : Addr} {xs : List V} (e : ExN H H') (h : SqT K H a xs) : SqT K H' a xs := by
  rcases h with (h | ⟨o, h⟩) | h
  · exact .inl (.inl (e _ _ h fun _ z => by cases z))
  · exact .inl (.inr ⟨o, e _ _ h fun _ z => by cases z⟩)
  · exact .inr h
theorem sqL_exn {K : PySem.W.Frag} {H H' : Hp} {a : Addr} {xs : List V} (e : ExN H H') (h : SqL K H a xs) : SqL K H' a xs := by
  rcases h with (h | ⟨o, h⟩) | h
  · exact .inl (.inl (e _ _ h fun _ z => by cases z))
  · exact .inl (.inr ⟨o, e _ _ h fun _ z => by cases z⟩)
  · exact .inr h
/-- a def's body, its code object known -/
theorem fnL_of {P : Program} {w : World} {K : PySem.W.Frag} {mg : Str → Option Value} {base : Heap} {x : Str} {a : Arguments} {b : List Stmt} {sc : Scope} {fd : FuncData} {N ps : List Str} {k : Nat} {sp : Sp} (F : FunD K x x a b sc [] [] (He.fAd K (x, none)) fd) (S : FnScope N ps sc)
    (len : ∀ vs H Q E, sp vs H Q E → vs.length = ps.length)
    (hbody : ∀ (cdv : Value) (A : Around) (outer : List Env) (s : Shared) (H : Hp) (vs : List V) (Q : VK) (E : XK), cdv = .ref (He.codeOf K (x, none)) → (A.deeper (envOfC x sc s.heap.objs.size (He.fAd K (x, none)) cdv)).guards = some [] → Room k (A.deeper (envOfC x sc s.heap.objs.size (He.fAd K (x, none)) cdv)) → sp vs H Q E →
      ∃ t, PSs (cxOf (L2.CX P w) P w K mg base N x sc (He.fAd K (x, none)) cdv A outer s H E) b t ∧ t { nx := fun _ H' => Q .non H', rt := Q } (start N vs) H) : FnG P w K mg base (k + 1) (He.fAd K (x, none)) fd ps sp := by
  obtain ⟨oc, od, dV, kV, doc, pm, an, cdv, ct, osl, rfl, lk, hcd, _, _⟩ := F.ex
  obtain ⟨c, rfl⟩ := He.codeIn_ref hcd
  have ec : c = He.codeOf K (x, none) := (He.codeOf_eq lk rfl).symm
  exact ⟨len, fun A outer s H args us vs Q E hg hr e0 hb r h => LamX.run_ofS lk hcd S hr e0 hb r (len _ _ _ _ h) fun hr' => hbody (.ref c) A outer s H vs Q E (by rw [ec]) hg hr' h⟩
section
variable {P : Program} {w : World} {fa : List He.Fa} {fn : List He.DefD} {K : PySem.W.Frag} {mg : Str → Option Value} {base : Heap}
theorem Ct.calL (C : Ct fa fn K mg base) (i j : Nat) {x : Str} {a : Arguments} {b : List Stmt} {sc : Scope} (hd : fn[i]? = some ⟨(x, none), x, x, a, b, sc, [], []⟩) (hj : fa[j]? = some (.glo x)) {N ps : List Str} {k : Nat} {sp : Sp} (S : FnScope N ps sc)
    (hb : ∀ (kV doc pm : Value) (an : Option Addr) (cdv ct : Value) (us : List Value), us.length = ps.length → bindArgs (PySem.W.fnOf x x a b sc .none kV doc pm an cdv ct) ⟨us, []⟩ = pure (ps.zip us))
    (len : ∀ vs H Q E, sp vs H Q E → vs.length = ps.length)
    (hbody : ∀ (cdv : Value) (A : Around) (outer : List Env) (s : Shared) (H : Hp) (vs : List V) (Q : VK) (E : XK), cdv = .ref (He.codeOf K (x, none)) → (A.deeper (envOfC x sc s.heap.objs.size (He.fAd K (x, none)) cdv)).guards = some [] → Room k (A.deeper (envOfC x sc s.heap.objs.size (He.fAd K (x, none)) cdv)) → sp vs H Q E →
      ∃ t, PSs (cxOf (L2.CX P w) P w K mg base N x sc (He.fAd K (x, none)) cdv A outer s H E) b t ∧ t { nx := fun _ H' => Q .non H', rt := Q } (start N vs) H) : CalG P w K mg base (k + 1) x ps sp := by
  obtain ⟨fd, F⟩ := C.says.def_ i hd
  exact ⟨_, fd, He.glo_ok C.kin C.glob (C.says.fact j hj), F.kp, fnL_of F S len hbody, FunD.bindsN F hb⟩
end
/-- the def that calls its lambda in a try -/
def Ref (K : PySem.W.Frag) (mg : Str → Option Value) (x : Str) (C : Addr) (f ret : Str) : Prop :=
  ∃ (g : Addr) (oc : Value) (od : Option Addr) (osl : Array (Option Value)) (pg : Arguments) (bg : List Stmt) (sg : Scope) (dV kV doc pm cdv ct : Value) (an : Option Addr) (a n : Str),
    K.lookup g = some ⟨oc, od, .func (PySem.W.fnOf x x pg bg sg dV kV doc pm an cdv ct), osl⟩ ∧ PySem.W.keepIn K (.ref g) = true ∧ PySem.W.codeIn K cdv x = true ∧ mg x = some (.ref g) ∧ L2.Binds K (PySem.W.fnOf x x pg bg sg dV kV doc pm an cdv ct) [a] [] ∧
      FnScope [a, n] [a] sg ∧ sg.names.lookup a = some .local ∧ ((a == ("__debug__" : Str)) = false ∧ (a == ("__classdict__" : Str)) = false) ∧ ∀ X : Cx, X.K = K → X.mg = mg → ∀ q, LamX.GivesTo X [a, n] x sg g cdv bg a q (TTref C f ret)
theorem pe_ref {X : Cx} {T : List (Addr × Str)} {x f ret : Str} {CS c P : Addr} {k j : Nat} {params : Arguments} {body : Expr} {scope : Scope} {t : XK → TE} {p lpos pos : Pos} (R : Ref X.K X.mg x CS f ret) (TB : LamX.TabB X.base X.mg c P) (hcode : X.env.code = .ref c) (hT : T = [(P, X.env.qual ++ "<lambda>")])
    (hr : Room j X.A) (hk : k + 2 ≤ j) (L : LamX.LamS X.env.scope scope) (hdef : defaultsOf params X.env = ([], [])) (hbind : ∀ (q : Str) (cl : List (Str × Addr)) (pm cv ctv : Value), bindArgs (PySem.W.kla_fn "<lambda>" q params body scope cl pm cv ctv) ⟨[], []⟩ = pure [])
    (hbody : ∀ (A : Around) (outer : List Env) (s : Shared) (H : Hp) (E : XK) (f c' : Addr), Room k (A.deeper (LamX.lamEnv X scope s.heap.objs.size f c')) → PE (LamX.lamCx X A outer s H E scope f c') body (t E))
    (hg : Gl X x := by rfl) (hdb : (x == ("__debug__" : Str)) = false := by decide) : PE X (.Call (.Name x p) [.Lambda params body scope lpos] [] pos) (LamX.tLam T (TTref CS f ret) t) := by
  obtain ⟨g, oc, od, osl, pg, bg, sg, dV, kV, doc, pm, cdv, ct, an, a, n, lk, kp, hcg, hm, hb, Sg, hla, ⟨d1, d2⟩, G⟩ := R
  refine LamX.pe_lamcall (c := c) (P := P) hg hm kp lk hcg hb Sg rfl (.inl hla) (G X rfl rfl _) TB hcode (by rw [hT]; exact List.mem_singleton.mpr rfl) (fun q hq _ => by rw [hT] at hq; rw [List.mem_singleton.mp hq]) (hr.mono hk) L hdef hbind hbody hdb d1 d2
theorem r_ref {T : List (Addr × Str)} {CS : Addr} {f ret : Str} {t : XK → TE} {σ : St} {H : Hp} {Q : VK} (hT : LamX.Tabs T H) (h : ∀ H1, ExN H H1 → LamX.Tabs T H1 → t (fun cls d H' => cls = .ref CS ∧ ∃ dd v, d = some dd ∧ H' dd = some (.xd [(f, v)]) ∧ Q v H') σ H1 fun _ H' => Q (.str ret) H') : LamX.tLam T (TTref CS f ret) t σ H Q := ⟨hT, fun H1 e1 e2 => h H1 e1 e2⟩
/-! ### keywords only -/
/-- such a def by its keywords, in any order -/
def CalK (P : Program) (w : World) (K : PySem.W.Frag) (mg : Str → Option Value) (base : Heap) (k : Nat) (x : Str) (ks : List Str) (sp : Sp) (gV : List V → List V) : Prop :=
  ∃ f fd ps g, mg x = some (.ref f) ∧ PySem.W.keepIn K (.ref f) = true ∧ FnOk P w K mg base (L2.CX P w) k f fd ps sp ∧ KBn K fd ps 0 ks g (fun _ zs => gV zs)
theorem pe_kw0 {X : Cx} {k j : Nat} {x : Str} {ks : List Str} {sp : Sp} {gV : List V → List V} {E : XK} {p pos : Pos} {kws : List Keyword} {tk : TA} (c : CalK X.prog X.w X.K X.mg X.base k x ks sp gV) (hr : Room j X.A) (hk : k ≤ j) (hx : Passes (L2.CX X.prog X.w) X E) (hkw : PK X kws tk)
    (hg : Gl X x := by rfl) (hall : (backToKw pos (keywordEach kws X.env)).all (·.1.isSome) = true := by rfl) (hks : (backToKw pos (keywordEach kws X.env)).filterMap (·.1) = ks := by rfl) (hdb : (x == ("__debug__" : Str)) = false := by decide)
    (hpl : ((backTo pos (starEach [] X.env)).any (·.1) || (backToKw pos (keywordEach kws X.env)).any (·.1.isNone)) = false := by rfl) : PE X (.Call (.Name x p) [] kws pos) (fun σ H Q => tk σ H fun zs H1 => zs.length = ks.length ∧ sp (gV zs) H1 Q E) := by
  obtain ⟨f, fd, ps, g, h1, h2, F, b⟩ := c
  refine ⟨fun pins s σ H Q I h => wpAny_Call_Name_kw (ld_glob I hg h1 ?_ hdb)⟩
  refine PySem.W.callWith_KW0 (h₀ := X.base) I.ok.mod.kin h2 hall (thn (hkw.run pos pins s σ H _ I h) fun ws s2 ⟨zs, H2, I2, rz, l2, q2⟩ => ⟨I2.kIn, ?_⟩) hpl
  rw [hks]
  exact run_fnN F (hr.mono hk) b hx I2 .nil rz rfl l2 q2
end PB

/-! PX: isinstance of a caught exception that bears a dict; defaults; texts in lists. -/
namespace PB
open PySem PySem.Spec L2
open PyProof.Rows hiding St
section
open PySem.W PySem.Calls
variable {prog : Program} {w : World} {A : Around} {E : Value → Shared → Prop} {K : PySem.W.Frag} {x D : Addr} {ox od : Obj}
/-- e.__class__ of such an exception -/
theorem class_of_exc (T : L2.ExcC K D) {g0 : Array GenState} {d0 : Drawn} {t0 : Nat} {os0 : OsState} {hp : Heap} {Q : Option Value → Shared → Prop} (kin : K.In hp) (at_ : InstAt hp x ox D (some od)) (q : Q (some (.ref D)) ⟨hp, g0, d0, t0 + 1, os0⟩) :
    wpAny (model prog w) A (getAttr? (.ref x) "__class__") Q E ⟨hp, g0, d0, t0, os0⟩ := by
  have isC : (clsIn K D).isSome = true := by
    obtain ⟨cd, hc, _⟩ := any_some T.hd
    rw [hc]; rfl
  have fnd := looks_find (M := model prog w) kin at_ (findObj_data (od := od) isC T.ha T.hn T.ht)
  have typ := at_.type (M := model prog w)
  have gat := looks_findIn (M := model prog w) kin T.hg
  have non := looks_findIn (M := model prog w) kin T.hk
  have ins : Looks (model prog w) hp (isInstance (.ref x) (.type "BaseException")) true := typ.andThen (looks_subIn kin T.hs)
  have own : (Value.builtin "BaseException.__getattribute__" == Value.builtin "object.__getattribute__") = false := by decide +kernel
  unfold getAttr? getAttrBy? getAttrBy
  refine wpAny_bind (wpAny_mkText (wpAny_bind (wpAny_attempt (wpAny_holding (wpAny_bind (typ.at (wpAny_bind (gat.at ?_))))))))
  show wpAny _ _ (if (onTheHeap (Value.ref D) && (Value.builtin "BaseException.__getattribute__" == Value.builtin "object.__getattribute__")) = true then _ else _) _ _ _
  rw [own, Bool.and_false, if_neg Bool.false_ne_true]
  unfold getAttrByItsOwn hookBefore
  refine wpAny_bind ?_
  rw [if_pos (show onTheHeap (Value.ref D) = true from rfl)]
  refine non.at (wpAny_bind (wpAny_attempt (wpAny_holding ?_)))
  unfold callGetattribute
  rw [show (false && onTheHeap (Value.builtin "BaseException.__getattribute__")) = false from rfl, if_neg Bool.false_ne_true]
  unfold boundAndCalled
  rw [PySem.F.excAttr_ValueError.ga.bind (.ref x)]
  refine wpAny_bind (wpAny_pure ?_)
  show wpAny _ _ (call (.builtin "BaseException.__getattribute__") [.ref x, .str "__class__" t0]) _ _ _
  refine wpAny_call (codeAny_call_builtin PySem.F.excAttr_ValueError.ga.plain PySem.F.entry_bexc_ga ?_)
  refine @check_slot (model prog w) _ _ ⟨hp, g0, d0, t0 + 1, os0⟩ "BaseException.__getattribute__" "BaseException" "__getattribute__" (.ref x) [.str "__class__" t0] [] _ (by decide +kernel) (by decide +kernel) ins (PySem.F.args_bexc_ga (.ref x) (.str "__class__" t0)) ?_
  unfold Builtin.«object.__getattribute__»
  refine wpAny_bind (wpAny_of_eq (a := ((Value.ref x : Value), [Value.str "__class__" t0])) (by first | rfl | (simp only [slotArgs]; rfl)) (wpAny_bind (wpAny_pure (wpAny_bind (typ.at (wpAny_bind (fnd.at ?_)))))))
  show wpAny _ _ (holding [Value.builtin "object.__class__"] (call (.builtin "getset_descriptor.__get__") [.builtin "object.__class__", .ref x, .ref D]) >>= ret) _ _ _
  refine wpAny_bind (wpAny_holding (wpAny_call (class_get (s := ⟨hp, g0, d0, t0 + 1, os0⟩) (ox := ox) (od := some od) kin at_ T.hm (wpAny_pure ?_))))
  show wpAny _ _ (handedOut (.ref D)) _ _ _
  rw [handedOut_of (v := .ref D) rfl]
  first
    | exact wpAny_pure (wpAny_pure q)
    | exact wpAny_pure q
    | exact wpAny_pure (wpAny_bind (wpAny_pure (wpAny_pure q)))
theorem kit_exc (T : L2.ExcC K D) : KitX K (.ref x) (.ref D) (fun h => ∃ od, InstAt h x ox D (some od)) := by
  obtain ⟨cd, hc, _⟩ := any_some T.hd
  have look : ∃ c d sl, K.lookup D = some ⟨c, d, .cls cd, sl⟩ := by
    unfold clsIn at hc
    split at hc
    · rename_i c d cd' sl ho
      cases hc
      exact ⟨c, d, sl, ho⟩
    · cases hc
  obtain ⟨c, d, sl, ho⟩ := look
  refine ⟨fun _ _ _ ⟨_, I⟩ => I.type, fun _ _ X _ A' Q' E' s' k q => ?_, fun h tp dd its n sl' X htp => ?_, fun X ⟨od, I⟩ q => ?_⟩
  · unfold isType loadHead
    exact wpAny_bind (wpAny_loadPart (k _ _ (X _ _ ho)) (wpAny_pure q))
  · refine Bool.eq_false_iff.mpr fun z => ?_
    cases beq_iff_eq.mp z
    cases (X _ _ ho).symm.trans htp
  · exact class_of_exc T X I q
end
/-- isinstance(e, c), e the exception that the suite holds, its dict at d -/
def rIsX (K : PySem.W.Frag) (D a : Addr) (cls : Value) (d : Option Addr) : List V → Hp → VK → Prop := fun xs H Q => cls = .ref D ∧ ∃ (c : V) (cv : Value) (b : Bool) (dd : Addr) (fs : List (Str × V)), xs = [.ref a, c] ∧ (∀ u, RelV c u → u = cv) ∧ PySem.W.kitOne K (.ref D) cv = some b ∧ d = some dd ∧ H dd = some (.xd fs) ∧ Q (.bl b) H
theorem k_isX {X : Cx} {K : PySem.W.Frag} {a D : Addr} {cls : Value} {d : Option Addr} {oe : Obj} {pn : List (Addr × Obj)} (eK : X.K = K) (C : ExcC K D) (hz : Zc cls d oe) (hf : ∃ vs, oe.data = .fields vs) : CallR (X.suite a ((a, oe) :: pn)) (.builtin "isinstance") (rIsX K D a cls d) := by
  subst eK
  intro pins s σ H xs us Q I r h
  obtain ⟨rfl, c, cv, b, dd, fs, rfl, hcv, e, rfl, hd, q⟩ := h
  obtain ⟨u0, u1, rfl, r0, r1⟩ := vals2 r
  obtain rfl : u0 = Value.ref a := r0
  obtain rfl := hcv _ r1
  obtain ⟨hget, _⟩ := I.pin (a, oe) (List.mem_append.mpr (.inl List.mem_cons_self))
  obtain ⟨vs, hv⟩ := hf
  have hx : ObjOk X.prog X.w H s.heap dd (.xd fs) := I.hok dd _ hd
  obtain ⟨mA, hns, _⟩ := hx
  obtain ⟨od, ho, _⟩ := lookIn_ns hns
  have J : PySem.W.InstAt s.heap a oe D (some od) := ⟨hget, hz.1, by unfold PySem.W.notCls; rw [hv] <;> rfl, by rw [hz.2]; exact ho⟩
  exact PySem.W.kia_one (kit_exc C) I.kIn ⟨od, J⟩ e (fun z => nomatch z) fun tk => ⟨.bl b, H, I.kept (t' := tk) fun _ _ z => z, rfl, q⟩
def excCB (K : PySem.W.Frag) (D : Addr) : Bool := eqS (PySem.W.findIn K (.ref D) "__getattribute__") (some (some (.builtin "BaseException.__getattribute__"))) && (eqS (PySem.W.findIn K (.ref D) "__getattr__") (some none) && (decide (PySem.W.subIn K (.ref D) (.type "BaseException") = some true) &&
  (PySem.W.hasDictIn K D && (eqS (PySem.W.findIn K (.ref D) "__class__") (some (some (.builtin "object.__class__"))) && (eqS (PySem.W.specialIn K (.builtin "object.__class__") "__get__") (some (some (.builtin "getset_descriptor.__get__"))) &&
  (decide (PySem.W.takesIn K (.builtin "object.__class__") = some true) && decide (PySem.W.mroIn K D (.type "object") = some true)))))))
theorem excCB_ok {K : PySem.W.Frag} {D : Addr} (h : excCB K D = true) : ExcC K D := by
  unfold excCB at h
  simp only [Bool.and_eq_true, eqS, decide_eq_true_eq] at h
  obtain ⟨h1, h2, h3, h4, h5, h6, h7, h8⟩ := h
  exact ⟨h1, h2, h3, h4, h5, h6, h7, h8⟩
/-! ### defs with defaults -/
def CalD (P : Program) (w : World) (K : PySem.W.Frag) (mg : Str → Option Value) (base : Heap) (k : Nat) (x : Str) (ps : List Str) (dvs : List V) (sp : Sp) : Prop :=
  ∃ f fd ds, mg x = some (.ref f) ∧ PySem.W.keepIn K (.ref f) = true ∧ FnOk P w K mg base (L2.CX P w) k f fd ps sp ∧ Binds K fd ps ds ∧ Vals dvs ds
theorem pe_fD {X : Cx} {k j : Nat} {x : Str} {ps : List Str} {dvs : List V} {sp : Sp} {E : XK} {p pos : Pos} {e : Expr} {es : List Expr} {t : TA} (c : CalD X.prog X.w X.K X.mg X.base k x ps dvs sp) (hr : Room j X.A) (hk : k ≤ j) (hx : Passes (L2.CX X.prog X.w) X E) (ha : PA X (e :: es) t)
    (hg : Gl X x := by rfl) (hdb : (x == ("__debug__" : Str)) = false := by decide) (he : starEach (e :: es) X.env = (false, eval e X.env) :: starEach es X.env := by rfl) (hpl : (backTo pos (starEach es X.env)).any (·.1) = false := by rfl) :
    PE X (.Call (.Name x p) (e :: es) [] pos) (tCall sp dvs E t) := by
  obtain ⟨f, fd, ds, h1, h2, F, b, v⟩ := c
  exact pe_call F (hr.mono hk) hg h1 h2 b v hx ha hdb he hpl
theorem r_callD {sp : Sp} {dvs : List V} {E : XK} {tr : TA} {σ : St} {H : Hp} {Q : VK} (h : tr σ H fun vs H1 => sp (vs ++ dvs) H1 Q E) : tCall sp dvs E tr σ H Q := h
section
variable {P : Program} {w : World} {fa : List He.Fa} {fn : List He.DefD} {K : PySem.W.Frag} {mg : Str → Option Value} {base : Heap}
/-- a def whose keyword-only parameters have defaults, these not written -/
theorem Ct.calD (C : Ct fa fn K mg base) (i j n : Nat) {x : Str} {a : Arguments} {b : List Stmt} {sc : Scope} {kw : List (Str × He.Dv)} (hd : fn[i]? = some ⟨(x, none), x, x, a, b, sc, [], kw⟩) (hj : fa[j]? = some (.glo x)) {N ps : List Str} {k : Nat} {sp : Sp} (S : FnScope N ps sc)
    (hk : kw ≠ []) (hn : n + kw.length = ps.length)
    (hb : ∀ (D : Addr) (doc pm : Value) (an : Option Addr) (cdv ct : Value) (us ks : List Value), us.length = n → ks.length = kw.length → KwChain D ((kw.map (·.1)).zip ks) (bindArgs (PySem.W.fnOf x x a b sc .none (.ref D) doc pm an cdv ct) ⟨us, []⟩) (ps.zip (us ++ ks)))
    (len : ∀ vs H Q E, sp vs H Q E → vs.length = ps.length)
    (hbody : ∀ (f : Addr) (cdv : Value) (A : Around) (outer : List Env) (s : Shared) (H : Hp) (vs : List V) (Q : VK) (E : XK), Room k (A.deeper (envOfC x sc s.heap.objs.size f cdv)) → sp vs H Q E →
      ∃ t, PSs (cxOf (L2.CX P w) P w K mg base N x sc f cdv A outer s H E) b t ∧ t { nx := fun _ H' => Q .non H', rt := Q } (start N vs) H) : CalD P w K mg base (k + 1) x ps (kw.map fun q => q.2.v K) sp := by
  obtain ⟨fd, F⟩ := C.says.def_ i hd
  have F' : FunD K x x a b sc [] (kw.map fun q => (q.1, q.2.v K)) (He.fAd K (x, none)) fd := F
  obtain ⟨ds, v, bb⟩ := FunD.binds0 (ps := ps) F' n (fun z => hk (List.map_eq_nil_iff.mp z)) (by rw [List.length_map]; exact hn) (fun D doc pm an cdv ct us ks h1 h2 => by
    rw [List.length_map] at h2
    have := hb D doc pm an cdv ct us ks h1 h2
    rw [List.map_map]
    exact this)
  rw [List.map_map] at v
  exact ⟨_, fd, ds, He.glo_ok C.kin C.glob (C.says.fact j hj), F.kp, FunD.ok F' S len fun cdv A outer s H vs Q E hr h => hbody _ cdv A outer s H vs Q E hr h, bb, v⟩
/-- a def without defaults, by keywords alone -/
theorem Ct.calK (C : Ct fa fn K mg base) (i j : Nat) {x : Str} {a : Arguments} {b : List Stmt} {sc : Scope} (hd : fn[i]? = some ⟨(x, none), x, x, a, b, sc, [], []⟩) (hj : fa[j]? = some (.glo x)) {N ps ks : List Str} {k : Nat} {sp : Sp} {g : List Value → List Value} {gV : List V → List V} (S : FnScope N ps sc)
    (hrel : ∀ (zs : List V) (ws : List Value), Vals zs ws → Vals (gV zs) (g ws))
    (hb : ∀ (kV doc pm : Value) (an : Option Addr) (cdv ct : Value) (ws : List Value), ws.length = ks.length → bindArgs (PySem.W.fnOf x x a b sc .none kV doc pm an cdv ct) ⟨[], ks.zip ws⟩ = pure (ps.zip (g ws)))
    (len : ∀ vs H Q E, sp vs H Q E → vs.length = ps.length)
    (hbody : ∀ (f : Addr) (cdv : Value) (A : Around) (outer : List Env) (s : Shared) (H : Hp) (vs : List V) (Q : VK) (E : XK), Room k (A.deeper (envOfC x sc s.heap.objs.size f cdv)) → sp vs H Q E →
      ∃ t, PSs (cxOf (L2.CX P w) P w K mg base N x sc f cdv A outer s H E) b t ∧ t { nx := fun _ H' => Q .non H', rt := Q } (start N vs) H) : CalK P w K mg base (k + 1) x ks sp gV := by
  obtain ⟨fd, F⟩ := C.says.def_ i hd
  obtain ⟨oc, od, dV, kV, doc, pm, an, cdv, ct, osl, rfl, lk, hcd, hD, hK⟩ := F.ex
  have dn : dV = .none := by
    rcases hD with ⟨_, e⟩ | ⟨e, _⟩
    · exact e
    · exact absurd rfl e
  subst dn
  refine ⟨_, _, ps, fun _ ws => g ws, He.glo_ok C.kin C.glob (C.says.fact j hj), F.kp, FunD.ok F S len fun cdv A outer s H vs Q E hr h => hbody _ cdv A outer s H vs Q E hr h, ⟨fun s us ws _ l1 l2 => ?_, fun _ r => hrel _ _ r⟩⟩
  obtain rfl := List.length_eq_zero_iff.mp l1
  exact .of_eq (hb kV doc pm an cdv ct ws l2)
end
/-! ### calls within a try -/
theorem pe_fS {X : Cx} {W : WX} {k j : Nat} {x : Str} {ps : List Str} {sp : Sp} {p pos : Pos} {e : Expr} {es : List Expr} {t : TA} (c : Cal X.prog X.w X.K X.mg X.base k x ps sp) (hr : Room j X.A) (hk : k ≤ j) (tk : Takes X W) (ha : PA X (e :: es) t)
    (hg : Gl X x := by rfl) (hdb : (x == ("__debug__" : Str)) = false := by decide) (he : starEach (e :: es) X.env = (false, eval e X.env) :: starEach es X.env := by rfl) (hpl : (backTo pos (starEach es X.env)).any (·.1) = false := by rfl) :
    PE X (.Call (.Name x p) (e :: es) [] pos) (tCallS sp (WE W) t) := by
  obtain ⟨f, fd, h1, h2, F, b⟩ := c
  exact pe_callS F (hr.mono hk) hg h1 h2 b (fun σ => passAt tk σ) ha hdb he hpl
theorem pe_kw0S {X : Cx} {W : WX} {k j : Nat} {x : Str} {ks : List Str} {sp : Sp} {gV : List V → List V} {p pos : Pos} {kws : List Keyword} {tk : TA} (c : CalK X.prog X.w X.K X.mg X.base k x ks sp gV) (hr : Room j X.A) (hk : k ≤ j) (tw : Takes X W) (hkw : PK X kws tk)
    (hg : Gl X x := by rfl) (hall : (backToKw pos (keywordEach kws X.env)).all (·.1.isSome) = true := by rfl) (hks : (backToKw pos (keywordEach kws X.env)).filterMap (·.1) = ks := by rfl) (hdb : (x == ("__debug__" : Str)) = false := by decide)
    (hpl : ((backTo pos (starEach [] X.env)).any (·.1) || (backToKw pos (keywordEach kws X.env)).any (·.1.isNone)) = false := by rfl) : PE X (.Call (.Name x p) [] kws pos) (fun σ H Q => tk σ H fun zs H1 => zs.length = ks.length ∧ sp (gV zs) H1 Q (WE W σ)) := by
  obtain ⟨f, fd, ps, g, h1, h2, F, b⟩ := c
  refine ⟨fun pins s σ H Q I h => wpAny_Call_Name_kw (ld_glob I hg h1 ?_ hdb)⟩
  refine PySem.W.callWith_KW0 (h₀ := X.base) I.ok.mod.kin h2 hall (thn (hkw.run pos pins s σ H _ I h) fun ws s2 ⟨zs, H2, I2, rz, l2, q2⟩ => ⟨I2.kIn, ?_⟩) hpl
  rw [hks]
  have r2 := b.rel (vs := []) (us := []) .nil rz
  refine wpAny_call (codeAny_mono (F.run X.A X.stack s2 H2 ⟨[], ks.zip ws⟩ (g [] ws) (gV zs) Q (WE W σ) (hr.mono hk) I2.env0 (b.to s2 [] ws I2.kIn rfl (rz.length.symm.trans l2)) r2 q2) fun r s' hq => ?_)
  match r, hq with
  | .error er, hq => exact passAt tw σ pins H2 s2 er s' I2 hq
  | .ok (.ret u), hq => exact I2.after hq
  | .ok .next, hq => exact hq.elim
  | .ok .brk, hq => exact hq.elim
  | .ok .cont, hq => exact hq.elim
def tKw0S (n : Nat) (sp : Sp) (gV : List V → List V) (W : WX) (tk : TA) : TE := fun σ H Q => tk σ H fun zs H1 => zs.length = n ∧ sp (gV zs) H1 Q (WE W σ)
theorem r_callS {sp : Sp} {E : St → XK} {t : TA} {σ : St} {H : Hp} {Q : VK} (h : t σ H fun vs H1 => sp vs H1 Q (E σ)) : tCallS sp E t σ H Q := h
/-- a list of texts and a list of texts -/
theorem dp_S {K : PySem.W.Frag} {H : Hp} : ∀ xs : List Str, DpAll K H (xs.map V.str) (xs.map PyData.str)
  | [] => .nil
  | x :: xs => .cons (.str x) (dp_S xs)
theorem eqv_S : ∀ xs ys : List Str, PyData.eqvAll (xs.map PyData.str) (ys.map PyData.str) = decide (xs = ys)
  | [], [] => by simp only [List.map_nil, PyData.eqvAll, decide_true]
  | [], _ :: _ => by simp only [List.map_nil, List.map_cons, PyData.eqvAll]; rfl
  | _ :: _, [] => by simp only [List.map_nil, List.map_cons, PyData.eqvAll]; rfl
  | x :: xs, y :: ys => by
    have := eqv_S xs ys
    simp only [List.map_cons, PyData.eqvAll, PyData.eqv, this]
    by_cases h1 : x = y <;> by_cases h2 : xs = ys <;> simp [h1, h2]
theorem r_eqSS {K : PySem.W.Frag} {H : Hp} {a b : Addr} {xs ys : List Str} {Q : VK} (h1 : SqL K H a (xs.map V.str)) (h2 : SqL K H b (ys.map V.str)) (s1 : SeqAt.shaped (.list (xs.map .str)) = true) (s2 : SeqAt.shaped (.list (ys.map .str)) = true) (q : Q (.bl (decide (xs = ys))) H) : rEqA K (.ref a) (.ref b) H Q :=
  .inr ⟨_, _, .lst h1 (dp_S xs), .lst h2 (dp_S ys), s1, s2, by simp only [PyData.eqv, eqv_S]; exact q⟩
end PB

/-! PJ: texts compared; a search for the first. -/
namespace PB
open PySem PySem.Spec L2
open PyProof.Rows hiding St
section
variable {K : PySem.W.Frag} {H : Hp} {Q : VK} {x y : Str}
theorem dec_str : decide (V.str x = V.str y) = decide (x = y) := by
  rw [Bool.eq_iff_iff]
  simp
theorem r_eqZ (q : Q (.bl (decide (x = y))) H) : rEqA K (.str x) (.str y) H Q := .inl ⟨rfl, by rw [dec_str]; exact q⟩
theorem r_neZ (q : Q (.bl (!decide (x = y))) H) : rNeA K (.str x) (.str y) H Q := .inl ⟨rfl, by rw [dec_str]; exact q⟩
/-- is in a list or a tuple of flat things -/
theorem r_inF {v : V} {a : Addr} {xs : List V} (h : SqT K H a xs) (f1 : flatV v = true) (f2 : xs.all flatV = true) (q : Q (.bl (inV v xs)) H) : rInA K v (.ref a) H Q := .inl ⟨a, xs, rfl, .inr h, f1, f2, q⟩
theorem r_inFL {v : V} {a : Addr} {xs : List V} (h : SqL K H a xs) (f1 : flatV v = true) (f2 : xs.all flatV = true) (q : Q (.bl (inV v xs)) H) : rInA K v (.ref a) H Q := .inl ⟨a, xs, rfl, .inl h, f1, f2, q⟩
end
/-- the first of n that is found -/
def srch {α : Type} (f : Nat → Option α) : Nat → Option α
  | 0 => none
  | n + 1 => match srch f n with
    | some r => some r
    | none => f n
theorem srch_none {α : Type} {f : Nat → Option α} {n : Nat} (h : srch f n = none) (e : f n = none) : srch f (n + 1) = none := by
  show (match srch f n with | some r => some r | none => f n) = none
  rw [h]; exact e
theorem srch_more {α : Type} {f : Nat → Option α} {n : Nat} {r : α} (h : srch f n = some r) : ∀ m, n ≤ m → srch f m = some r
  | 0, hm => by
    obtain rfl : n = 0 := by omega
    exact h
  | m + 1, hm => by
    by_cases c : n = m + 1
    · rw [← c]; exact h
    · show (match srch f m with | some r => some r | none => f m) = some r
      rw [srch_more h m (by omega)]
theorem srch_some {α : Type} {f : Nat → Option α} {n m : Nat} {r : α} (h : srch f n = none) (e : f n = some r) (hm : n < m) : srch f m = some r := by
  refine srch_more (n := n + 1) ?_ m hm
  show (match srch f n with | some r => some r | none => f n) = some r
  rw [h]; exact e
end PB
namespace PB
open PySem PySem.Spec L2
open PyProof.Rows hiding St
/-- a test that answers b -/
theorem r_ifA {tt : TT} {t u : TS} {D : Ends} {σ : St} {H : Hp} (b : Bool) (h : ∀ R : Bool → Hp → Prop, R b H → tt σ H R) (q : if b = true then t D σ H else u D σ H) : tIfS tt t u D σ H := h _ q
/-- heaps: all but d and the tables stands -/
def EN (d : Addr) (H H' : Hp) : Prop := ∀ b o, b ≠ d → H b = some o → (∀ ps, o ≠ .tbl ps) → H' b = some o
theorem EN.b {d : Addr} {H H' : Hp} (e : ExB d H H') : EN d H H' := fun b o n h _ => e b o n h
theorem EN.n {d : Addr} {H H' : Hp} (e : ExN H H') : EN d H H' := fun b o _ h t => e b o h t
theorem EN.e {d : Addr} {H H' : Hp} (e : Ex H H') : EN d H H' := fun b o _ h _ => e b o h
theorem EN.tr {d : Addr} {H1 H2 H3 : Hp} (a : EN d H1 H2) (b : EN d H2 H3) : EN d H1 H3 := fun x o n h t => b x o n (a x o n h t) t
theorem tabs_exb {T : List (Addr × Str)} {d : Addr} {xs : List V} {H H' : Hp} (e : ExB d H H') (hd : H d = some (.lst xs)) (t : LamX.Tabs T H) : LamX.Tabs T H' := fun p hp => by
  obtain ⟨ps, h1, h2, h3⟩ := t p hp
  refine ⟨ps, e _ _ (fun z => by rw [z, hd] at h1; cases h1) h1, h2, fun pos cv hc => ?_⟩
  obtain ⟨c, e1, e2⟩ := h3 pos cv hc
  exact ⟨c, e1, e _ _ (fun z => by rw [z, hd] at e2; cases e2) e2⟩
theorem Dice.tabs {T : List (Addr × Str)} {n : Nat} {d : Addr} {H H' : Hp} (h : Dice n H d) (e : ExB d H H') (t : LamX.Tabs T H) : LamX.Tabs T H' := by
  obtain ⟨x, y, z, h, _⟩ := h
  exact tabs_exb e h t
theorem sqL_en {K : PySem.W.Frag} {H H' : Hp} {a d : Addr} {xs : List V} {n : Nat} (e : EN d H H') (hn : a ≠ d) (h : SqL K H a xs) : SqL K H' a xs := by
  rcases h with (h | ⟨o, h⟩) | h
  · exact .inl (.inl (e _ _ hn h fun _ z => by cases z))
  · exact .inl (.inr ⟨o, e _ _ hn h fun _ z => by cases z⟩)
  · exact .inr h
/-- an int tuple's repr -/
theorem r_reprT {K : PySem.W.Frag} {H : Hp} {a : Addr} {ns : List Int} {Q : VK} (h : SqT K H a (ns.map V.int)) (s1 : (PyData.tuple (dI ns)).showable = true) (s2 : (PyData.tuple (dI ns)).hasDict = false) (s3 : (PyData.tuple (dI ns)).shown.length ≤ sizeLine) (s4 : (PyData.tuple (dI ns)).depth ≤ 60) (q : Q (.str (PyData.tuple (dI ns)).shown) H) : rRepr K [.ref a] H Q :=
  ⟨a, _, rfl, dp_t h, s1, s2, s3, s4, q⟩
theorem r_xf {a C : Addr} {cls : Value} {d : Option Addr} {f : Str} {te : TE} {σ : St} {H : Hp} {Q : VK} (h : te σ H fun x H1 => x = .ref a ∧ cls = .ref C ∧ ∃ (dd : Addr) (fs : List (Str × V)) (v : V), d = some dd ∧ H1 dd = some (.xd fs) ∧ fs.lookup f = some v ∧ Q v H1) : tXf a cls d C f te σ H Q := h
theorem sqL_fresh_en {K : PySem.W.Frag} {H H1 H' : Hp} {a d : Addr} {xs : List V} (f : H d = none) (e1 : Ex H H1) (e : EN d H1 H') (h : SqL K H a xs) : SqL K H' a xs := by
  have ne : ∀ {o : HO}, H a = some o → a ≠ d := fun h z => by rw [z, f] at h; cases h
  rcases h with (h | ⟨o, h⟩) | h
  · exact .inl (.inl (e _ _ (ne h) (e1 _ _ h) fun _ z => by cases z))
  · exact .inl (.inr ⟨o, e _ _ (ne h) (e1 _ _ h) fun _ z => by cases z⟩)
  · exact .inr h
end PB

/-! PY: zip whose tuples go to a name: the last one may still be there, or not. -/
namespace PB
open PySem PySem.Spec L2
open PyProof.Rows hiding St
abbrev ZipO (h : Heap) (z TI TO : Addr) (f0 f1 : Value) : Prop :=
  h.get? z = some { cls := .type "zip", dict := none, data := .fields #[f0, f1, .bool false, .ref TI, .ref TO], slots := #[] }
/-- what the zip knows of its last tuple -/
def Last (f0 f1 : Value) : Prop := f0 = .none ∨ ∃ (T : Nat) (f : Bool), f0 = rawInt T ∧ f1 = .bool f
def ZipG (h : Heap) (z TI TO : Addr) : Prop := ∃ f0 f1, ZipO h z TI TO f0 f1 ∧ Last f0 f1
section
variable {prog : Program} {w : World} {A : Around} {E : Value → Shared → Prop} {s : Shared} {z TI TO i1 i2 : Addr} {fp1 fp2 : List Addr} {n1 n2 i : Nat} {P1 P2 : Nat → Value → Prop} {St1 St2 : Nat → Heap → Prop} {a1 a2 f0 f1 : Value}
theorem lookAlive {a : Addr} {Q : Option Obj → Shared → Prop} (h : Q (s.heap.get? a) s) : wpAny (model prog w) A (loadIfAlive a) Q E s := fun _ _ _ => h
theorem zip_asks {Q : Bool → Shared → Prop} (hz : ZipO s.heap z TI TO f0 f1) (hl : Last f0 f1) (h : ∀ b h' f1', ZipO h' z TI TO f0 f1' → Last f0 f1' → Heap.SameBut z s.heap h' → Q b { s with heap := h' }) :
    wpAny (model prog w) A (Builtin.SmallTypes.ownedTupleIsFree (.ref z)) Q E s := by
  unfold Builtin.SmallTypes.ownedTupleIsFree
  rcases hl with rfl | ⟨T, f, rfl, rfl⟩
  · exact wpAny_bind (wpAny_field hz rfl (x := .none) rfl (wpAny_pure (h true s.heap f1 hz (.inl rfl) (Heap.SameBut.refl _ _))))
  · refine wpAny_bind (wpAny_field hz rfl (x := rawInt T) rfl ?_)
    show wpAny _ _ (loadIfAlive ((T : Int).toNat) >>= _) _ _ _
    refine wpAny_bind (lookAlive ?_)
    cases hT : s.heap.get? ((T : Int).toNat) with
    | none =>
      simp only [Option.isNone_none, if_true]
      exact wpAny_pure (h true s.heap _ hz (.inr ⟨T, f, rfl, rfl⟩) (Heap.SameBut.refl _ _))
    | some o =>
      simp only [Option.isNone_some, Bool.false_eq_true, if_false]
      refine wpAny_bind (wpAny_field hz rfl (x := .bool f) rfl ?_)
      cases f with
      | true =>
        rw [if_neg (show ¬ ((Value.bool true != Value.bool true) = true) from Bool.false_ne_true)]
        exact wpAny_pure (h false s.heap _ hz (.inr ⟨T, _, rfl, rfl⟩) (Heap.SameBut.refl _ _))
      | false =>
        rw [if_pos (show (Value.bool false != Value.bool true) = true from rfl)]
        exact wpAny_bind (wpAny_setField_rec hz (by simp) fun h₁ hz₁ hs₁ => wpAny_pure (h false h₁ _ hz₁ (.inr ⟨T, _, rfl, rfl⟩) hs₁))
theorem ZipG.of {h : Heap} (hz : ZipO h z TI TO f0 f1) (l : Last f0 f1) : ZipG h z TI TO := ⟨f0, f1, hz, l⟩
theorem updTup {T : Addr} {x : Value} {k : Nat} {Q : Unit → Shared → Prop} (hT : IsTupOf2 s.heap T a1 a2)
    (h : ∀ h', h'.get? T = some { cls := .type "tuple", data := .seq ((#[a1, a2] : Array Value).setIfInBounds k x) } → Heap.SameBut T s.heap h' → Q () { s with heap := h' }) :
    wpAny (model prog w) A (updateSeq T (·.setIfInBounds k x)) Q E s := updateSeq_IsTupOf2 hT h
/-- the next pair, whatever became of the last one -/
theorem zipG_item {Q : Value → Shared → Prop} (S : ZipSep2 z TI TO i1 i2 fp1 fp2) (D1 : Draws prog w A i1 fp1 n1 P1 St1) (D2 : Draws prog w A i2 fp2 n2 P2 St2)
    (hz : ZipG s.heap z TI TO) (hTI : IsTupOf2 s.heap TI (.ref i1) (.ref i2)) (hTO : ∃ a1 a2, IsTupOf2 s.heap TO a1 a2) (st1 : St1 i s.heap) (st2 : St2 i s.heap) (hlt1 : i < n1) (hlt2 : i < n2)
    (hQ : ∀ x1 x2 h' tk, P1 i x1 → P2 i x2 → ZipG h' z TI TO → (∃ a1 a2, IsTupOf2 h' TO a1 a2) → St1 (i + 1) h' → St2 (i + 1) h' → IsTupOf2 h' s.heap.objs.size x1 x2 →
      (∀ c o, c ≠ z → c ≠ TO → c ≠ i1 → c ≠ i2 → s.heap.get? c = some o → h'.get? c = some o) → Q (.ref s.heap.objs.size) { s with heap := h', toks := tk }) :
    wpAny (model prog w) A (Builtin.«zip.__next__» ⟨[.ref z], []⟩) (fun fin s' => ∃ v, fin = .done (.ret v) ∧ Q v s') E s := by
  obtain ⟨f0, f1, hz, hl⟩ := hz
  obtain ⟨a1, a2, hTO⟩ := hTO
  obtain ⟨hp, g, d, tk0, os⟩ := s
  show wpAny _ _ (field (.ref z) 2 >>= _) _ _ _
  refine wpAny_bind (wpAny_field hz rfl (x := .bool false) rfl ?_)
  show wpAny _ _ (field (.ref z) 3 >>= _) _ _ _
  refine wpAny_bind (wpAny_field hz rfl (x := .ref TI) rfl ?_)
  refine wpAny_bind (wpAny_seqItems hTI rfl ?_)
  show wpAny _ _ (Builtin.SmallTypes.ownedTupleIsFree (.ref z) >>= _) _ _ _
  refine wpAny_bind (zip_asks hz hl fun b q f1' hzq hlq hsq => ?_)
  replace hsq : Heap.SameBut z hp q := hsq
  have hTOq : IsTupOf2 q TO a1 a2 := hsq.extBut _ _ S.TOz hTO
  have s1q : St1 i q := D1.over st1 hsq S.zf1
  have s2q : St2 i q := D2.over st2 hsq S.zf2
  have szq : q.objs.size = hp.objs.size := hsq.1
  cases b with
  | true =>
    simp only [if_true]
    refine wpAny_bind (wpAny_rule ?_)
    refine wpAny_bind (wpAny_field (s := ⟨q, g, d, tk0, os⟩) hzq rfl (x := .ref TO) rfl ?_)
    refine wpAny_bind (wpAny_setField_rec (s := ⟨q, g, d, tk0, os⟩) hzq (by simp) fun g0 hz0 hs0 => ?_)
    replace hz0 : ZipO g0 z TI TO .ellipsis f1' := hz0
    replace hs0 : Heap.SameBut z q g0 := hs0
    refine wpAny_bind ?_
    simp only [List.zipIdx_cons, List.zipIdx_nil, List.forIn_cons, List.forIn_nil]
    refine wpAny_bind (wpAny_bind (wpAny_onRaise ?_))
    show wpAny _ _ (Builtin.SmallTypes.nextOf (.ref i1) >>= _) _ _ ⟨g0, g, d, tk0, os⟩
    refine wpAny_bind (D1.item i _ _ _ hlt1 (D1.over s1q hs0 S.zf1) fun x1 p1 tk1 hx1 sn1 hp1 => wpAny_pure ?_)
    replace hp1 : Heap.SameBut i1 g0 p1 := hp1
    have hU1 : IsTupOf2 p1 TO a1 a2 := hp1.extBut _ _ S.Ti1 (hs0.extBut _ _ S.TOz hTOq)
    refine wpAny_bind (wpAny_seqItems (s := ⟨p1, g, d, tk1, os⟩) hU1 rfl ?_)
    refine wpAny_bind (updTup (s := ⟨p1, g, d, tk1, os⟩) hU1 fun g1 hT1 hs1 => ?_)
    replace hT1 : IsTupOf2 g1 TO x1 a2 := hT1
    replace hs1 : Heap.SameBut TO p1 g1 := hs1
    refine wpAny_bind (wpAny_letGo (wpAny_pure ?_))
    refine wpAny_bind (wpAny_bind (wpAny_onRaise ?_))
    show wpAny _ _ (Builtin.SmallTypes.nextOf (.ref i2) >>= _) _ _ ⟨g1, g, d, tk1, os⟩
    refine wpAny_bind (D2.item i _ _ _ hlt2 (D2.over (D2.over (D2.over s2q hs0 S.zf2) hp1 S.sep1_2) hs1 S.Tf2) fun x2 p2 tk2 hx2 sn2 hp2 => wpAny_pure ?_)
    replace hp2 : Heap.SameBut i2 g1 p2 := hp2
    have hU2 : IsTupOf2 p2 TO x1 a2 := hp2.extBut _ _ S.Ti2 hT1
    refine wpAny_bind (wpAny_seqItems (s := ⟨p2, g, d, tk2, os⟩) hU2 rfl ?_)
    refine wpAny_bind (updTup (s := ⟨p2, g, d, tk2, os⟩) hU2 fun g2 hT2 hs2 => ?_)
    replace hT2 : IsTupOf2 g2 TO x1 x2 := hT2
    replace hs2 : Heap.SameBut TO p2 g2 := hs2
    refine wpAny_bind (wpAny_letGo (wpAny_pure (wpAny_pure ?_)))
    refine wpAny_bind (wpAny_seqItems (s := ⟨g2, g, d, tk2, os⟩) hT2 rfl ?_)
    refine wpAny_bind (wpAny_newTuple ?_)
    have hsz : g2.objs.size = hp.objs.size := by rw [hs2.1, hp2.1, hs1.1, hp1.1, hs0.1, szq]
    have hzz : ZipO g2 z TI TO .ellipsis f1' := (hs2.extBut _ _ S.TOz.symm (hp2.extBut _ _ S.zi2 (hs1.extBut _ _ S.TOz.symm (hp1.extBut _ _ S.zi1 hz0))))
    have hkk : ∀ c o, c ≠ z → c ≠ TO → c ≠ i1 → c ≠ i2 → hp.get? c = some o → g2.get? c = some o := fun c o cz cT c1 c2 e =>
      (hs2.extBut _ _ cT (hp2.extBut _ _ c2 (hs1.extBut _ _ cT (hp1.extBut _ _ c1 (hs0.extBut _ _ cz (hsq.extBut _ _ cz e))))))
    have hj1 : St1 (i + 1) g2 := (D1.over (D1.over (D1.over sn1 hs1 S.Tf1) hp2 S.sep2_1) hs2 S.Tf1)
    have hj2 : St2 (i + 1) g2 := (D2.over sn2 hs2 S.Tf2)
    have hzlt : z < g2.objs.size := Heap.lt_size hzz
    show wpAny _ _ (Builtin.SmallTypes.ownedTupleHandOut (.ref z) (.ref g2.objs.size) >>= _) _ _ ⟨g2.push { cls := .type "tuple", data := .seq #[x1, x2] }, g, d, tk2, os⟩
    refine wpAny_bind ?_
    unfold Builtin.SmallTypes.ownedTupleHandOut
    have hz₆ : ZipO (g2.push { cls := .type "tuple", data := .seq #[x1, x2] }) z TI TO .ellipsis f1' := Heap.get?_push_of_some _ hzz
    refine wpAny_bind (wpAny_setField_rec hz₆ (by simp) fun h₇ hz₇ hs₇ => ?_)
    replace hz₇ : ZipO h₇ z TI TO (rawInt g2.objs.size) f1' := hz₇
    refine wpAny_setField_rec hz₇ (by simp) fun h₈ hz₈ hs₈ => ?_
    replace hz₈ : ZipO h₈ z TI TO (rawInt g2.objs.size) (.bool false) := hz₈
    replace hs₇ : Heap.SameBut z (g2.push { cls := .type "tuple", data := .seq #[x1, x2] }) h₇ := hs₇
    replace hs₈ : Heap.SameBut z h₇ h₈ := hs₈
    have up : ∀ c o, c ≠ z → g2.get? c = some o → h₈.get? c = some o := fun c o c1 e => hs₈.extBut _ _ c1 (hs₇.extBut _ _ c1 (Heap.get?_push_of_some _ e))
    have hT₈ : IsTupOf2 h₈ g2.objs.size x1 x2 := hs₈.extBut _ _ (Nat.ne_of_gt hzlt) (hs₇.extBut _ _ (Nat.ne_of_gt hzlt) (Heap.get?_push_size _ rfl))
    refine wpAny_pure ⟨_, rfl, ?_⟩
    show Q (.ref g2.objs.size) ⟨h₈, g, d, tk2, os⟩
    rw [hsz] at hT₈ ⊢
    exact hQ x1 x2 h₈ tk2 hx1 hx2 (.of hz₈ (.inr ⟨_, _, rfl, rfl⟩)) ⟨_, _, up _ _ S.TOz hT2⟩ (D1.frame _ _ _ hj1 fun b hb o e => up b o (fun q => S.zf1 (q ▸ hb)) e) (D2.frame _ _ _ hj2 fun b hb o e => up b o (fun q => S.zf2 (q ▸ hb)) e) hT₈ fun c o cz cT c1 c2 e => up c o cz (hkk c o cz cT c1 c2 e)
  | false =>
    simp only [Bool.false_eq_true, if_false]
    refine wpAny_bind ?_
    rw [← Array.forIn_toList]
    simp only [List.forIn_cons, List.forIn_nil]
    refine wpAny_bind (wpAny_bind (wpAny_holding ?_))
    show wpAny _ _ (Builtin.SmallTypes.nextOf (.ref i1) >>= _) _ _ ⟨q, g, d, tk0, os⟩
    refine wpAny_bind (D1.item i _ _ _ hlt1 s1q fun x1 p1 tk1 hx1 sn1 hp1 => wpAny_pure ?_)
    replace hp1 : Heap.SameBut i1 q p1 := hp1
    refine wpAny_pure ?_
    refine wpAny_bind (wpAny_bind (wpAny_holding ?_))
    show wpAny _ _ (Builtin.SmallTypes.nextOf (.ref i2) >>= _) _ _ ⟨p1, g, d, tk1, os⟩
    refine wpAny_bind (D2.item i _ _ _ hlt2 (D2.over s2q hp1 S.sep1_2) fun x2 p2 tk2 hx2 sn2 hp2 => wpAny_pure ?_)
    replace hp2 : Heap.SameBut i2 p1 p2 := hp2
    refine wpAny_pure (wpAny_pure ?_)
    show wpAny _ _ (newTuple [x1, x2] >>= _) _ _ ⟨p2, g, d, tk2, os⟩
    refine wpAny_bind (wpAny_newTuple ?_)
    have hsz : p2.objs.size = hp.objs.size := by rw [hp2.1, hp1.1, szq]
    have hzz : ZipO p2 z TI TO f0 f1' := hp2.extBut _ _ S.zi2 (hp1.extBut _ _ S.zi1 hzq)
    have hTT : IsTupOf2 p2 TO a1 a2 := hp2.extBut _ _ S.Ti2 (hp1.extBut _ _ S.Ti1 hTOq)
    have hkk : ∀ c o, c ≠ z → c ≠ TO → c ≠ i1 → c ≠ i2 → hp.get? c = some o → p2.get? c = some o := fun c o cz cT c1 c2 e =>
      hp2.extBut _ _ c2 (hp1.extBut _ _ c1 (hsq.extBut _ _ cz e))
    have hj1 : St1 (i + 1) p2 := D1.over sn1 hp2 S.sep2_1
    have up : ∀ c o, p2.get? c = some o → (p2.push { cls := .type "tuple", data := .seq #[x1, x2] }).get? c = some o := fun c o e => Heap.get?_push_of_some _ e
    have hT₈ : IsTupOf2 (p2.push { cls := .type "tuple", data := .seq #[x1, x2] }) p2.objs.size x1 x2 := Heap.get?_push_size _ rfl
    refine wpAny_pure ⟨_, rfl, ?_⟩
    show Q (.ref p2.objs.size) ⟨p2.push { cls := .type "tuple", data := .seq #[x1, x2] }, g, d, tk2, os⟩
    rw [hsz] at hT₈ ⊢
    exact hQ x1 x2 _ tk2 hx1 hx2 (.of (up _ _ hzz) hlq) ⟨_, _, up _ _ hTT⟩ (D1.frame _ _ _ hj1 fun b hb o e => up b o e) (D2.frame _ _ _ sn2 fun b hb o e => up b o e) hT₈ fun c o cz cT c1 c2 e => up c o (hkk c o cz cT c1 c2 e)
theorem zipG_end {Q : Fin → Shared → Prop} (S : ZipSep2 z TI TO i1 i2 fp1 fp2) (D1 : Draws prog w A i1 fp1 n1 P1 St1) (D2 : Draws prog w A i2 fp2 n2 P2 St2)
    (hz : ZipG s.heap z TI TO) (hTI : IsTupOf2 s.heap TI (.ref i1) (.ref i2)) (hTO : ∃ a1 a2, IsTupOf2 s.heap TO a1 a2) (st1 : St1 i s.heap) (st2 : St2 i s.heap) (hle1 : i ≤ n1) (hle2 : i ≤ n2) (hend : i = n1 ∨ i = n2)
    (hE : ∀ h' tk e, (∀ c o, c ≠ z → c ≠ TO → c ≠ i1 → c ≠ i2 → s.heap.get? c = some o → h'.get? c = some o) → (∃ o, h'.get? e = some o ∧ o.cls = .type "StopIteration") → E (.ref e) { s with heap := h', toks := tk }) :
    wpAny (model prog w) A (Builtin.«zip.__next__» ⟨[.ref z], []⟩) Q E s := by
  obtain ⟨f0, f1, hz, hl⟩ := hz
  obtain ⟨a1, a2, hTO⟩ := hTO
  obtain ⟨hp, g, d, tk0, os⟩ := s
  show wpAny _ _ (field (.ref z) 2 >>= _) _ _ _
  refine wpAny_bind (wpAny_field hz rfl (x := .bool false) rfl ?_)
  show wpAny _ _ (field (.ref z) 3 >>= _) _ _ _
  refine wpAny_bind (wpAny_field hz rfl (x := .ref TI) rfl ?_)
  refine wpAny_bind (wpAny_seqItems hTI rfl ?_)
  show wpAny _ _ (Builtin.SmallTypes.ownedTupleIsFree (.ref z) >>= _) _ _ _
  refine wpAny_bind (zip_asks hz hl fun b q f1' hzq hlq hsq => ?_)
  replace hsq : Heap.SameBut z hp q := hsq
  have hTOq : IsTupOf2 q TO a1 a2 := hsq.extBut _ _ S.TOz hTO
  have s1q : St1 i q := D1.over st1 hsq S.zf1
  have s2q : St2 i q := D2.over st2 hsq S.zf2
  cases b with
  | true =>
    simp only [if_true]
    refine wpAny_bind (wpAny_rule ?_)
    refine wpAny_bind (wpAny_field (s := ⟨q, g, d, tk0, os⟩) hzq rfl (x := .ref TO) rfl ?_)
    refine wpAny_bind (wpAny_setField_rec (s := ⟨q, g, d, tk0, os⟩) hzq (by simp) fun g0 hz0 hs0 => ?_)
    replace hz0 : ZipO g0 z TI TO .ellipsis f1' := hz0
    replace hs0 : Heap.SameBut z q g0 := hs0
    refine wpAny_bind ?_
    simp only [List.zipIdx_cons, List.zipIdx_nil, List.forIn_cons, List.forIn_nil]
    refine wpAny_bind (wpAny_bind (wpAny_onRaise ?_))
    show wpAny _ _ (Builtin.SmallTypes.nextOf (.ref i1) >>= _) _ _ ⟨g0, g, d, tk0, os⟩
    by_cases hlt1 : i < n1
    · refine wpAny_bind (D1.item i _ _ _ hlt1 (D1.over s1q hs0 S.zf1) fun x1 p1 tk1 hx1 sn1 hp1 => wpAny_pure ?_)
      replace hp1 : Heap.SameBut i1 g0 p1 := hp1
      have hU1 : IsTupOf2 p1 TO a1 a2 := hp1.extBut _ _ S.Ti1 (hs0.extBut _ _ S.TOz hTOq)
      refine wpAny_bind (wpAny_seqItems (s := ⟨p1, g, d, tk1, os⟩) hU1 rfl ?_)
      refine wpAny_bind (updTup (s := ⟨p1, g, d, tk1, os⟩) hU1 fun g1 hT1 hs1 => ?_)
      replace hs1 : Heap.SameBut TO p1 g1 := hs1
      refine wpAny_bind (wpAny_letGo (wpAny_pure ?_))
      have hi2 : i = n2 := by omega
      refine wpAny_bind (wpAny_bind (wpAny_onRaise ?_))
      show wpAny _ _ (Builtin.SmallTypes.nextOf (.ref i2) >>= _) _ _ ⟨g1, g, d, tk1, os⟩
      refine wpAny_bind (D2.done ⟨g1, g, d, tk1, os⟩ _ _ (by rw [← hi2]; exact (D2.over (D2.over (D2.over s2q hs0 S.zf2) hp1 S.sep1_2) hs1 S.Tf2)) fun r e hq he => ?_)
      replace hq : Heap.ExtBut i2 g1 r := hq
      obtain ⟨oe, hoe, hce⟩ := he
      replace hoe : r.get? e = some oe := hoe
      have hzr : ZipO r z TI TO .ellipsis f1' := hq _ _ S.zi2 (hs1.extBut _ _ S.TOz.symm (hp1.extBut _ _ S.zi1 hz0))
      have hez : e ≠ z := fun x => by subst x; rw [hzr] at hoe; cases hoe; simp at hce
      refine wpAny_setField_rec (s := ⟨r, g, d, tk1, os⟩) hzr (by simp) fun q' _ hq' => ?_
      replace hq' : Heap.SameBut z r q' := hq'
      exact hE q' tk1 e (fun c o cz cT c1 c2 x => hq'.extBut _ _ cz (hq _ _ c2 (hs1.extBut _ _ cT (hp1.extBut _ _ c1 (hs0.extBut _ _ cz (hsq.extBut _ _ cz x)))))) ⟨oe, hq'.extBut _ _ hez hoe, hce⟩
    · have hi1 : i = n1 := by omega
      refine wpAny_bind (D1.done ⟨g0, g, d, tk0, os⟩ _ _ (by rw [← hi1]; exact (D1.over s1q hs0 S.zf1)) fun r e hq he => ?_)
      replace hq : Heap.ExtBut i1 g0 r := hq
      obtain ⟨oe, hoe, hce⟩ := he
      replace hoe : r.get? e = some oe := hoe
      have hzr : ZipO r z TI TO .ellipsis f1' := hq _ _ S.zi1 hz0
      have hez : e ≠ z := fun x => by subst x; rw [hzr] at hoe; cases hoe; simp at hce
      refine wpAny_setField_rec (s := ⟨r, g, d, tk0, os⟩) hzr (by simp) fun q' _ hq' => ?_
      replace hq' : Heap.SameBut z r q' := hq'
      exact hE q' tk0 e (fun c o cz cT c1 c2 x => hq'.extBut _ _ cz (hq _ _ c1 (hs0.extBut _ _ cz (hsq.extBut _ _ cz x)))) ⟨oe, hq'.extBut _ _ hez hoe, hce⟩
  | false =>
    simp only [Bool.false_eq_true, if_false]
    refine wpAny_bind ?_
    rw [← Array.forIn_toList]
    simp only [List.forIn_cons, List.forIn_nil]
    refine wpAny_bind (wpAny_bind (wpAny_holding ?_))
    show wpAny _ _ (Builtin.SmallTypes.nextOf (.ref i1) >>= _) _ _ ⟨q, g, d, tk0, os⟩
    by_cases hlt1 : i < n1
    · refine wpAny_bind (D1.item i _ _ _ hlt1 s1q fun x1 p1 tk1 hx1 sn1 hp1 => wpAny_pure ?_)
      replace hp1 : Heap.SameBut i1 q p1 := hp1
      refine wpAny_pure ?_
      have hi2 : i = n2 := by omega
      refine wpAny_bind (wpAny_bind (wpAny_holding ?_))
      show wpAny _ _ (Builtin.SmallTypes.nextOf (.ref i2) >>= _) _ _ ⟨p1, g, d, tk1, os⟩
      refine wpAny_bind (D2.done ⟨p1, g, d, tk1, os⟩ _ _ (by rw [← hi2]; exact D2.over s2q hp1 S.sep1_2) fun r e hq he => ?_)
      replace hq : Heap.ExtBut i2 p1 r := hq
      exact hE r tk1 e (fun c o cz cT c1 c2 x => hq _ _ c2 (hp1.extBut _ _ c1 (hsq.extBut _ _ cz x))) he
    · have hi1 : i = n1 := by omega
      refine wpAny_bind (D1.done ⟨q, g, d, tk0, os⟩ _ _ (by rw [← hi1]; exact s1q) fun r e hq he => ?_)
      replace hq : Heap.ExtBut i1 q r := hq
      exact hE r tk0 e (fun c o cz cT c1 c2 x => hq _ _ c1 (hsq.extBut _ _ cz x)) he
theorem zipG_next_item {Q : Option Value → Shared → Prop} (S : ZipSep2 z TI TO i1 i2 fp1 fp2) (D1 : Draws prog w A.in1 i1 fp1 n1 P1 St1) (D2 : Draws prog w A.in1 i2 fp2 n2 P2 St2)
    (hz : ZipG s.heap z TI TO) (hTI : IsTupOf2 s.heap TI (.ref i1) (.ref i2)) (hTO : ∃ a1 a2, IsTupOf2 s.heap TO a1 a2) (st1 : St1 i s.heap) (st2 : St2 i s.heap) (hlt1 : i < n1) (hlt2 : i < n2)
    (hQ : ∀ x1 x2 h' tk, P1 i x1 → P2 i x2 → ZipG h' z TI TO → (∃ a1 a2, IsTupOf2 h' TO a1 a2) → St1 (i + 1) h' → St2 (i + 1) h' → IsTupOf2 h' s.heap.objs.size x1 x2 →
      (∀ c o, c ≠ z → c ≠ TO → c ≠ i1 → c ≠ i2 → s.heap.get? c = some o → h'.get? c = some o) → Q (some (.ref s.heap.objs.size)) { s with heap := h', toks := tk }) :
    wpAny (model prog w) A (pyNext (.ref z)) Q E s := by
  have hT : s.TypeIs (.ref z) "zip" := by obtain ⟨_, _, hz, _⟩ := hz; exact ⟨_, hz, rfl⟩
  unfold pyNext
  exact wpAny_bind (wpAny_attempt (wpAny_callSpecial?_slot (name := Str.ofString "__next__") hT F.slot_zip_next
    (wpAny_call_entry F.slot_zip_next hT F.entry_zip_next
      (zipG_item S D1 D2 hz hTI hTO st1 st2 hlt1 hlt2 fun x1 x2 h' tk y1 y2 b1 b2 d1 d2 b5 b7 => wpAny_pure (hQ x1 x2 h' tk y1 y2 b1 b2 d1 d2 b5 b7)) (F.args_zip_next_1 _))))
theorem zipG_next_end {Q : Option Value → Shared → Prop} (S : ZipSep2 z TI TO i1 i2 fp1 fp2) (D1 : Draws prog w A.in1 i1 fp1 n1 P1 St1) (D2 : Draws prog w A.in1 i2 fp2 n2 P2 St2)
    (hz : ZipG s.heap z TI TO) (hTI : IsTupOf2 s.heap TI (.ref i1) (.ref i2)) (hTO : ∃ a1 a2, IsTupOf2 s.heap TO a1 a2) (st1 : St1 i s.heap) (st2 : St2 i s.heap) (hle1 : i ≤ n1) (hle2 : i ≤ n2) (hend : i = n1 ∨ i = n2)
    (hQ : ∀ h' tk, (∀ c o, c ≠ z → c ≠ TO → c ≠ i1 → c ≠ i2 → s.heap.get? c = some o → h'.get? c = some o) → Q none { s with heap := h', toks := tk }) : wpAny (model prog w) A (pyNext (.ref z)) Q E s := by
  have hT : s.TypeIs (.ref z) "zip" := by obtain ⟨_, _, hz, _⟩ := hz; exact ⟨_, hz, rfl⟩
  unfold pyNext
  refine wpAny_bind (wpAny_attempt (wpAny_callSpecial?_slot (name := Str.ofString "__next__") hT F.slot_zip_next
    (wpAny_call_entry F.slot_zip_next hT F.entry_zip_next (zipG_end S D1 D2 hz hTI hTO st1 st2 hle1 hle2 hend fun h' tk e hk he => ?_) (F.args_zip_next_1 _))))
  obtain ⟨o, ho, hc⟩ := he
  refine wpAny_bind (wpAny_isInstance (T := "StopIteration") (b := true) ⟨o, ho, hc⟩ isSubtype_stop ?_)
  exact wpAny_pure (hQ _ _ hk)
end
/-- a target that does not unpack -/
def Whole (tg : Expr) : Prop := ∀ it v, letOwnedTupleGo tg it v = pure ()
theorem whole_name {x : Str} {p : Pos} : Whole (.Name x p) := fun _ _ => rfl
theorem turn_whole {P : Program} {w : World} {K : PySem.W.Frag} {tg : Expr} {k1 k2 : Sk} {a b z TI TO i1 i2 : Addr} (wh : Whole tg) (S : ZipSep2 z TI TO i1 i2 [i1, a] [i2, b]) (n1 : a ≠ i1) (n2 : b ≠ i2) :
    Turn P w K tg (ItP K k1 k2 a b) [z, TI, TO, i1, i2] z (fun i h => ZipG h z TI TO ∧ IsTupOf2 h TI (.ref i1) (.ref i2) ∧ (∃ x y, IsTupOf2 h TO x y) ∧ k1.iter h i1 a i ∧ k2.iter h i2 b i) where
  mem := by simp
  obj := fun i h st c hc => by
    obtain ⟨⟨_, _, hz, _⟩, hTI, ⟨x, y, hTO⟩, h1, h2⟩ := st
    simp only [List.mem_cons, List.not_mem_nil, or_false] at hc
    rcases hc with q | q | q | q | q <;> subst q
    · exact ⟨_, hz, fun v q => nomatch q⟩
    · exact ⟨_, hTI, fun v q => nomatch q⟩
    · exact ⟨_, hTO, fun v q => nomatch q⟩
    · exact k1.there h1
    · exact k2.there h2
  keep := fun i h h' st kp => by
    obtain ⟨⟨f0, f1, hz, l⟩, hTI, ⟨x, y, hTO⟩, h1, h2⟩ := st
    exact ⟨⟨f0, f1, kp z (by simp) _ hz, l⟩, kp TI (by simp) _ hTI, ⟨x, y, kp TO (by simp) _ hTO⟩, k1.keep h1 fun o q => kp i1 (by simp) o q, k2.keep h2 fun o q => kp i2 (by simp) o q⟩
  item := by
    intro X hP hw hK hc i pins s σ H E I hf st hg
    subst hP hw hK
    obtain ⟨hz, hTI, hTO, h1, h2⟩ := st
    obtain ⟨xs, ys, x, y, qx, qy, hx, hy⟩ := hg
    obtain ⟨us, r1, p1, la⟩ := k1.inv I qx
    obtain ⟨vs, r2, p2, lb⟩ := k2.inv I qy
    have hh : X.A.in1.handled = none := I.ok.hd hc
    have l1 : i < us.toArray.size := by
      have := (List.getElem?_eq_some_iff.mp hx).1
      rw [r1.length] at this
      simpa using this
    have l2 : i < vs.toArray.size := by
      have := (List.getElem?_eq_some_iff.mp hy).1
      rw [r2.length] at this
      simpa using this
    refine zipG_next_item S (k1.draws hh i1 a n1 us.toArray) (k2.draws hh i2 b n2 vs.toArray) hz hTI hTO ⟨h1, p1⟩ ⟨h2, p2⟩ l1 l2 fun u u2 h' tk e1 e2 hz' hTO' s1' s2' hT kp => ⟨_, rfl, ?_⟩
    rw [wh]
    obtain ⟨h1', _⟩ := s1'
    obtain ⟨h2', _⟩ := s2'
    have new : ObjOk X.prog X.w (upd H s.heap.objs.size (.tup [x, y])) h' s.heap.objs.size (.tup [x, y]) :=
      ⟨by show 2 ≤ sizeLine; decide, [u, u2], .cons (get_of r1 hx e1) (.cons (get_of r2 hy e2) .nil), ⟨_, hT, rfl, _, rfl⟩⟩
    have sub : ∀ c, c ∈ [z, TO, i1, i2] → c ∈ [z, TI, TO, i1, i2] := fun c hc => by
      simp only [List.mem_cons, List.not_mem_nil, or_false] at hc ⊢
      rcases hc with q | q | q | q
      · exact .inl q
      · exact .inr (.inr (.inl q))
      · exact .inr (.inr (.inr (.inl q)))
      · exact .inr (.inr (.inr (.inr q)))
    have kp' : ∀ c o, c ∉ [z, TO, i1, i2] → s.heap.get? c = some o → h'.get? c = some o := fun c o hb q => kp c o (fun e => hb (by simp [e])) (fun e => hb (by simp [e])) (fun e => hb (by simp [e])) (fun e => hb (by simp [e])) q
    have I1 : Inv X pins σ (upd H s.heap.objs.size (.tup [x, y])) { s with heap := h', toks := tk } := I.turnedNew (ch := [z, TO, i1, i2]) kp' (fun c hc => hf c (sub c hc)) (Nat.le_refl _) new
    have hTI' : IsTupOf2 h' TI (.ref i1) (.ref i2) := kp _ _ S.TIz S.TITO S.TIi1 S.TIi2 hTI
    refine wpAny_pure ⟨.ref s.heap.objs.size, _, I1, rfl, ⟨s.heap.objs.size, x, y, rfl, I.hok.fresh (Nat.le_refl _), rfl, fun l hl => by rw [k1.inj I hl qx]; exact hx, fun l hl => by rw [k2.inj I hl qy]; exact hy⟩, ⟨hz', hTI', hTO', h1', h2'⟩, fun c hc => ?_⟩
    have lt : c < s.heap.objs.size := by
      obtain ⟨_, _, hz, _⟩ := hz
      simp only [List.mem_cons, List.not_mem_nil, or_false] at hc
      rcases hc with q | q | q | q | q <;> subst q
      · exact Heap.lt_size hz
      · exact Heap.lt_size hTI
      · obtain ⟨_, _, e⟩ := hTO; exact Heap.lt_size e
      · obtain ⟨_, e, _⟩ := k1.there h1; exact Heap.lt_size e
      · obtain ⟨_, e, _⟩ := k2.there h2; exact Heap.lt_size e
    rw [upd_ne (Nat.ne_of_lt lt)]
    exact (hf c hc).1
  done := by
    intro X hP hw hK hc i pins s σ H E I hf st hg
    subst hP hw hK
    obtain ⟨hz, hTI, hTO, h1, h2⟩ := st
    obtain ⟨xs, ys, qx, qy, hi⟩ := hg
    obtain ⟨us, r1, p1, _⟩ := k1.inv I qx
    obtain ⟨vs, r2, p2, _⟩ := k2.inv I qy
    have hh : X.A.in1.handled = none := I.ok.hd hc
    have l1 : xs.length = us.toArray.size := by rw [List.size_toArray]; exact r1.length
    have l2 : ys.length = vs.toArray.size := by rw [List.size_toArray]; exact r2.length
    have sub : ∀ c, c ∈ [z, TO, i1, i2] → c ∈ [z, TI, TO, i1, i2] := fun c hc => by
      simp only [List.mem_cons, List.not_mem_nil, or_false] at hc ⊢
      rcases hc with q | q | q | q
      · exact .inl q
      · exact .inr (.inr (.inl q))
      · exact .inr (.inr (.inr (.inl q)))
      · exact .inr (.inr (.inr (.inr q)))
    refine zipG_next_end S (k1.draws hh i1 a n1 us.toArray) (k2.draws hh i2 b n2 vs.toArray) hz hTI hTO ⟨h1, p1⟩ ⟨h2, p2⟩ (by omega) (by omega) (by omega) fun h' tk kp => ⟨rfl, ?_⟩
    exact I.turnedL (ch := [z, TO, i1, i2]) (fun c o hb q => kp c o (fun e => hb (by simp [e])) (fun e => hb (by simp [e])) (fun e => hb (by simp [e])) (fun e => hb (by simp [e])) q) (fun c hc => hf c (sub c hc))
  self := fun A i s Q E st h => by
    obtain ⟨⟨_, _, hz, _⟩, _⟩ := st
    have hT : s.TypeIs (.ref z) "zip" := ⟨_, hz, rfl⟩
    refine wpAny_pyIter_slot hT F.slot_zip_iter (wpAny_call_entry F.slot_zip_iter hT F.entry_zip_iter ?_ (F.args_zip_iter_1 _))
    show wpAny _ _ (ret (.ref z)) _ _ s
    exact wpAny_pure ⟨_, rfl, "zip", _, hT, F.slot_zip_next.lookup, h⟩
theorem pi_zipN {X : Cx} {tg e e2 : Expr} {ta : TA} {p pos : Pos} (wh : Whole tg) (hg : Gl X "zip") (hm : X.mg "zip" = none) (ha : PA X [e, e2] ta)
    (hs : starEach [e, e2] X.env = (false, eval e X.env) :: starEach [e2] X.env := by rfl) (hpl : (backTo pos (starEach [e2] X.env)).any (·.1) = false := by rfl) :
    PI X tg (.Call (.Name "zip" p) [e, e2] [] pos) (iZipM X.K ta) := by
  refine ⟨fun pins s σ H R I h => ?_⟩
  refine Call_ (ld_blt I hg hm PyProof.Rows.boot_zip (PyProof.Rows.callWith_type1 (thn (ha.run pos pins s σ H _ I h) fun us s1 ⟨vs, H1, I1, r1, q1⟩ => ?_) hs hpl))
  obtain ⟨k1, k2, a, b, xs, ys, ex, qx, qy, q⟩ := q1
  subst ex
  obtain ⟨u1, u2, rfl, ra, rb⟩ := vals2 r1
  obtain rfl : u1 = Value.ref a := ra
  obtain rfl : u2 = Value.ref b := rb
  obtain ⟨its, _, p1, la⟩ := k1.inv I1 qx
  obtain ⟨its2, _, p2, lb⟩ := k2.inv I1 qy
  refine zip_begins2 (k1.begins a its.toArray) (k2.begins b its2.toArray) p1 p2 fun h' hz hTI hTO e1 e2 _ hk => wpAny_pyIter_zip hz ?_
  have I2 : Inv X pins σ H1 { s1 with heap := h' } := I1.kept (t' := s1.toks) hk
  have S := zip_sep2 (N := s1.heap.objs.size) (fp1 := [a]) (fp2 := [b]) (fun c hc => by rw [List.mem_singleton.mp hc]; exact la) (fun c hc => by rw [List.mem_singleton.mp hc]; exact lb)
  refine ⟨s1.heap.objs.size + 4, [s1.heap.objs.size + 4, s1.heap.objs.size + 2, s1.heap.objs.size + 3, s1.heap.objs.size, s1.heap.objs.size + 1], _, _, H1, rfl, I2, turn_whole wh S (Nat.ne_of_lt la) (Nat.ne_of_lt (Nat.lt_succ_of_lt lb)),
    ⟨⟨_, _, hz, .inl rfl⟩, hTI, ⟨_, _, hTO⟩, k1.start e1, k2.start e2⟩, fun c hc => ?_, q⟩
  have hle : s1.heap.objs.size ≤ c := by
    simp only [List.mem_cons, List.not_mem_nil, or_false] at hc
    rcases hc with z | z | z | z | z <;> rw [z]
    · exact Nat.le_add_right _ _
    · exact Nat.le_add_right _ _
    · exact Nat.le_add_right _ _
    · exact Nat.le_refl _
    · exact Nat.le_add_right _ _
  exact I1.fpOk hle (I1.hok.fresh hle)
end PB

/-! PM: loops over zip by one name; min of a list of data. -/
namespace PB
open PySem PySem.Spec L2
open PyProof.Rows hiding St
section
variable {X : Cx} {K : PySem.W.Frag}
theorem k_zipN {x : Str} {e e2 : Expr} {ta : TA} {p pos tpos : Pos} (eK : X.K = K) (hg : Gl X "zip") (hm : X.mg "zip" = none) (ha : PA X [e, e2] ta)
    (hs : starEach [e, e2] X.env = (false, eval e X.env) :: starEach [e2] X.env := by rfl) (hpl : (backTo pos (starEach [e2] X.env)).any (·.1) = false := by rfl) :
    PI X (.Name x tpos) (.Call (.Name "zip" p) [e, e2] [] pos) (iZipM K ta) := by
  subst eK
  exact pi_zipN whole_name hg hm ha hs hpl
end
section
variable {σ : St} {H : Hp} {D : Ends} {K : PySem.W.Frag} {tb : TS} {n : Nat}
theorem f_zipN {k1 k2 : Sk} {a b : Addr} {xs ys : List V} {j : Nat} (h1 : k1.at K H a xs) (h2 : k2.at K H b ys) (hn : n = min xs.length ys.length) (Pv : Nat → St → Hp → Prop) (h0 : Pv 0 σ H) (hG : ∀ i σ H, i ≤ n → Pv i σ H → k1.at K H a xs ∧ k2.at K H b ys)
    (hs : ∀ (i : Nat) x y T σ H, xs[i]? = some x → ys[i]? = some y → Pv i σ H → H T = none → tb { D with nx := Pv (i + 1), ct := Pv (i + 1), bk := D.nx } (σ.set j (some (.ref T))) (upd H T (.tup [x, y]))) (hd : ∀ σ H, Pv n σ H → D.nx σ H) :
    zQ K (FQ (gName j) tb D σ) [.ref a, .ref b] H :=
  z_P h1 h2 (f_it (walk_P hn) Pv h0 hG (fun i x σ H H' _ p y => by
    obtain ⟨T, u, v, e1, h1, e2, e3, e4⟩ := y
    subst e1 e2
    exact hs i u v T σ H e3 e4 p h1) hd)
end
section
variable {σ : St} {H : Hp} {Q : VK} {K : PySem.W.Frag} {tt : TT} {te : TE} {vs : List Nat}
theorem c_zipN {k1 k2 : Sk} {a b : Addr} {xs ys : List V} {j : Nat} (h1 : k1.at K H a xs) (h2 : k2.at K H b ys) (f : V → V → Option V) (hl : xs.length = ys.length) (hn : xs.length < 16000000) (hG : ∀ H', Ex H H' → k1.at K H' a xs ∧ k2.at K H' b ys)
    (hw : ∀ x, wipe ((wipe σ vs).set j (some x)) vs = wipe σ vs)
    (turn : ∀ x y T H1 (q : VK) (N : Hp → Prop), (x, y) ∈ xs.zip ys → Ex H H1 → H1 T = none → (∀ z H4, f x y = some z → Ex H1 H4 → q z H4) → (∀ H3, f x y = none → Ex H1 H3 → N H3) →
      tt ((wipe σ vs).set j (some (.ref T))) (upd H1 T (.tup [x, y])) fun b H4 => if b = true then te ((wipe σ vs).set j (some (.ref T))) H4 q else N H4)
    (done : ∀ L H', H L = none → Ex H H' → H' L = some (.lst ((xs.zip ys).filterMap fun z => f z.1 z.2)) → Q (.ref L) H') : zQ K (CQ (gName j) tt te vs σ Q) [.ref a, .ref b] H := by
  have hz : (xs.zip ys).length = xs.length := by rw [List.length_zip]; omega
  refine z_P h1 h2 (c_fn (walk_P (n := xs.length) (by omega)) (fun i => (xs.zip ys)[i]?.bind fun z => f z.1 z.2) hn hG (fun i x H1 H2 q N hi e1 y hq hN => ?_) (fun L H' h1 h2 h3 => done L H' h1 h2 ?_))
  · obtain ⟨T, u, v, e2, e3, e4, e5, e6⟩ := y
    subst e2 e4
    have ez : (xs.zip ys)[i]? = some (u, v) := by
      rw [List.getElem?_zip_eq_some]
      exact ⟨e5, e6⟩
    refine ⟨hw _, ?_⟩
    have em : (u, v) ∈ xs.zip ys := List.mem_of_getElem? ez
    refine turn u v T H1 q N em e1 e3 (fun z H4 e7 e8 => hq z H4 (by rw [ez]; exact e7) e8) (fun H3 e7 e8 => hN H3 (by rw [ez]; exact e7) e8)
  · rw [← hz] at h3
    rw [h3]
    rw [range_fm (xs.zip ys) fun z => f z.1 z.2]
theorem c_zipNI {k1 k2 : Sk} {a b : Addr} {gs as : List Int} {j : Nat} (h1 : k1.at K H a (gs.map V.int)) (h2 : k2.at K H b (as.map V.int)) (f : Int → Int → Int) (hl : gs.length = as.length) (hn : gs.length < 16000000)
    (hw : ∀ x, wipe ((wipe σ vs).set j (some x)) vs = wipe σ vs)
    (turn : ∀ x y T H1 (q : VK) (N : Hp → Prop), (x, y) ∈ gs.zip as → Ex H H1 → H1 T = none → (∀ H4, Ex H1 H4 → q (.int (f x y)) H4) →
      tt ((wipe σ vs).set j (some (.ref T))) (upd H1 T (.tup [.int x, .int y])) fun b H4 => if b = true then te ((wipe σ vs).set j (some (.ref T))) H4 q else N H4)
    (done : ∀ L H', H L = none → Ex H H' → H' L = some (.lst (((gs.zip as).map fun p => f p.1 p.2).map V.int)) → Q (.ref L) H') : zQ K (CQ (gName j) tt te vs σ Q) [.ref a, .ref b] H := by
  refine c_zipN h1 h2 (fun u v => match u, v with | .int i, .int j => some (V.int (f i j)) | _, _ => none) (by rw [List.length_map, List.length_map]; exact hl) (by rw [List.length_map]; exact hn) (fun H' e => ⟨k1.ex e h1, k2.ex e h2⟩) hw (fun x y T H1 q N hx e hT hq _ => ?_)
    fun L H' d1 d2 d3 => done L H' d1 d2 (d3.trans (congrArg (fun l => some (HO.lst l)) (zip_I f gs as)))
  obtain ⟨i, j, rfl, rfl, hm⟩ := mem_zipI hx
  exact turn i j T H1 q N hm e hT fun H4 e4 => hq _ H4 rfl e4
end
/-! ### min of data -/
section
open PySem.W
variable {X : Cx}
def rMinD (K : PySem.W.Frag) : List V → Hp → VK → Prop := fun vs H Q => ∃ (a : Addr) (xs : List V) (x : PyData) (ds : List PyData), vs = [.ref a] ∧ SqL K H a xs ∧ DpAll K H xs (x :: ds) ∧ AlikeAll (x :: ds) ∧ PyData.depthAll (x :: ds) ≤ 60 ∧
  ∀ (k : Nat) (v : V), xs[k]? = some v → (x :: ds)[k]? = some (minD x ds) → Q v H
theorem cr_minD {j : Nat} (hr : Room j X.A) (hc : X.calm = true) : CallR X (.builtin "min") (rMinD X.K) := by
  intro pins s σ H vs us Q I r h
  obtain ⟨a, xs, x, ds, rfl, hs, hd, ha, hu, q⟩ := h
  obtain ⟨its, rv, hl, _⟩ := I.list hs
  rw [Vals.ref1 r]
  obtain ⟨as, hR⟩ := Dp.readsAll I (x :: ds) xs its hd rv
  have hun := hr.un
  have hn : its.toArray.size = ds.length + 1 := readsAll_len (h := s.heap) (as := as) hR
  refine call_min_walkH (iter_listW (A := X.A.in1) (I.ok.hd hc) hl.isList fun s₂ e W st hfp hw hk => ?_)
  refine ⟨_, _, _, _, _, _, _, s.heap, _, rfl, W, st, hfp, by omega, hw, hk, cmpIn_lt (A := X.A.in1) (as := as) hR ha (by show X.A.units + 1 + _ < _; omega), fun v s' hP m => ?_⟩
  obtain ⟨h', tk, rfl, hk'⟩ := moved_old e rfl m
  have e1 : its.toArray.size - 1 = ds.length := by omega
  obtain ⟨e3, e2⟩ := argBest_fold dataLt PyData.none x ds ds.length (Nat.le_refl _)
  rw [List.take_length] at e2
  rw [e1] at hP
  generalize argBest (fun i j => dataLt ((x :: ds).getD i PyData.none) ((x :: ds).getD j PyData.none)) ds.length = k at *
  have hP : its.toArray[k]? = some v := hP
  have hlen := rv.length
  have lk : k < xs.length := by
    have := (Array.getElem?_eq_some_iff.mp hP).1
    rw [List.size_toArray] at this
    omega
  have hk2 : xs[k]? = some xs[k] := List.getElem?_eq_getElem lk
  have hx : (x :: ds)[k]? = some (minD x ds) := by
    have l2 : k < (x :: ds).length := by rw [List.length_cons]; omega
    rw [List.getElem?_eq_getElem l2]
    rw [List.getD_eq_getElem?_getD, List.getElem?_eq_getElem l2] at e2
    exact congrArg some e2
  exact ⟨xs[k], H, I.kept hk', get_of rv hk2 hP, q k _ hk2 hx⟩
end
end PB
namespace PB
open PySem PySem.Spec L2
open PyProof.Rows hiding St
theorem k_minR {X : Cx} {K : PySem.W.Frag} {j : Nat} (eK : X.K = K) (hr : Room j X.A) (hc : X.calm = true) : CallR X (.builtin "min") (rMinD K) := by
  subst eK
  exact cr_minD hr hc
end PB
namespace PB
open PySem PySem.Spec L2
open PyProof.Rows hiding St
section
variable {K : PySem.W.Frag} {H : Hp} {Q : VK} {a b : Addr}
/-- a list of rows and an empty one -/
theorem r_eqR0 {vs : List V} {rs : List (List Int)} (h1 : SqL K H a vs) (h3 : Rws K H vs rs) (h2 : SqL K H b []) (q : Q (.bl rs.isEmpty) H) : rEqA K (.ref a) (.ref b) H Q := by
  refine .inr ⟨_, _, .lst h1 h3.dp, .lst h2 .nil, sh_R, (by decide +kernel), ?_⟩
  cases rs with
  | nil => exact q
  | cons r rs => exact q
def minR (r : List Int) (rs : List (List Int)) : List Int := rs.foldl (fun a y => if y < a then y else a) r
theorem minD_R : ∀ (rs : List (List Int)) (r : List Int), PySem.W.minD (.tuple (dI r)) (rs.map fun r => .tuple (dI r)) = .tuple (dI (minR r rs))
  | [], r => rfl
  | s :: rs, r => by
    have ih := minD_R rs (if s < r then s else r)
    unfold PySem.W.minD minR at ih ⊢
    rw [List.map_cons, List.foldl_cons, List.foldl_cons, lt_T, ← ih]
    by_cases c : s < r
    · rw [if_pos c, decide_eq_true c]; rfl
    · rw [if_neg c, decide_eq_false c]; rfl
theorem dI_inj : ∀ {xs ys : List Int}, dI xs = dI ys → xs = ys
  | [], [], _ => rfl
  | [], _ :: _, h => by unfold dI at h; cases h
  | _ :: _, [], h => by unfold dI at h; cases h
  | x :: xs, y :: ys, h => by
    unfold dI at h
    rw [List.map_cons, List.map_cons] at h
    injection h with h1 h2
    injection h1 with h1
    rw [h1, dI_inj (xs := xs) (ys := ys) h2]
theorem ali_R (rs : List (List Int)) : PySem.W.AlikeAll (rs.map fun r => .tuple (dI r)) := by
  refine ⟨fun x hx y hy => ?_, fun x hx => ?_⟩
  · obtain ⟨r, _, rfl⟩ := List.mem_map.mp hx
    obtain ⟨s, _, rfl⟩ := List.mem_map.mp hy
    simp only [PySem.W.alike]
    exact ali_I r s
  · obtain ⟨r, _, rfl⟩ := List.mem_map.mp hx
    exact fun e => nomatch e
/-- the least of some rows -/
theorem r_minR {vs : List V} {r : List Int} {rs : List (List Int)} (h1 : SqL K H a vs) (h3 : Rws K H vs (r :: rs)) (q : ∀ (k : Nat) (v : V), vs[k]? = some v → (r :: rs)[k]? = some (minR r rs) → Row K H v (minR r rs) → Q v H) : rMinD K [.ref a] H Q := by
  refine ⟨a, vs, .tuple (dI r), rs.map fun r => .tuple (dI r), rfl, h1, h3.dp, ali_R (r :: rs), Nat.le_trans (dep_R (r :: rs)) (by decide), fun k v hv hk => ?_⟩
  rw [minD_R] at hk
  have hk' : ((r :: rs).map fun r => PyData.tuple (dI r))[k]? = some (.tuple (dI (minR r rs))) := hk
  rw [List.getElem?_map] at hk'
  obtain ⟨s, hs, e⟩ := Option.map_eq_some_iff.mp hk'
  injection e with e
  have e := dI_inj e
  subst e
  obtain ⟨s', hs', row⟩ := h3.get hv
  rw [hs] at hs'
  cases hs'
  exact q k v hv hs row
end
/-- rows of a range -/
theorem c_rngR {σ : St} {H : Hp} {Q : VK} {K : PySem.W.Frag} {tt : TT} {te : TE} {vs : List Nat} {j m : Nat} {lo : Int} (f : Nat → Option (List Int)) (hm : m < 16000000) (hw : ∀ x, wipe ((wipe σ vs).set j (some x)) vs = wipe σ vs)
    (turn : ∀ (i : Nat) H1 (q : VK) (N : Hp → Prop), i < m → Ex H H1 → (∀ v r H4, f i = some r → Ex H1 H4 → Row K H4 v r → q v H4) → (f i = none → ∀ H4, Ex H1 H4 → N H4) →
      tt ((wipe σ vs).set j (some (.int (lo + i)))) H1 fun b H4 => if b = true then te ((wipe σ vs).set j (some (.int (lo + i)))) H4 q else N H4)
    (done : ∀ L H' us, H L = none → Ex H H' → H' L = some (.lst us) → Rws K H' us ((List.range m).filterMap f) → Q (.ref L) H') : CQ (gName j) tt te vs σ Q (Itr lo m) H := by
  refine c_it walk_range hm (fun _ _ => trivial) (fun i acc H' => Rws K H' acc ((List.range i).filterMap f)) (fun _ _ => .nil) (fun L i acc H1 u u' hL _ p => p.put hL) ?_ ?_
  · rintro i x acc H1 H2 q N hi e1 p ⟨rfl, rfl⟩ hq hN
    have tk : (List.range (i + 1)).filterMap f = (List.range i).filterMap f ++ (f i).toList := by
      rw [List.range_succ, List.filterMap_append]
      congr 1
    refine ⟨hw _, turn i H2 q N hi e1 (fun v r H4 er e4 rw' => hq v H4 e4 ?_) fun en H4 e4 => hN H4 e4 ?_⟩
    · rw [tk, er]
      exact (p.ex e4).snoc rw'
    · rw [tk, en, Option.toList_none, List.append_nil]
      exact p.ex e4
  · intro L acc H' h1 h2 h3 _ h5
    exact done L H' acc h1 h2 h3 h5
end PB
namespace PB
open PySem PySem.Spec L2
open PyProof.Rows hiding St
/-- a tuple of small ints can be shown -/
theorem show_T {ns : List Int} (hl : ns.length ≤ 100) (hb : ∀ n ∈ ns, -1000000 ≤ n ∧ n ≤ 1000000) : (PyData.tuple (dI ns)).showable = true ∧ (PyData.tuple (dI ns)).hasDict = false ∧ (PyData.tuple (dI ns)).shown.length ≤ sizeLine ∧ (PyData.tuple (dI ns)).depth ≤ 60 := by
  have big : ∀ n ∈ ns, n.natAbs.log2 < 1920 := fun n hn => by
    have := hb n hn
    exact PyProof.Rows.shown (N := 1000001) (by omega) (by omega) (by decide)
  have hd : ∀ l : List Int, PyData.hasDictAll (l.map .int) = false := fun l => by
    induction l with
    | nil => rfl
    | cons x l ih => simp only [List.map_cons, PyData.hasDictAll, PyData.hasDict, ih, Bool.or_self]
  have hw : ∀ l : List Int, (∀ n ∈ l, n.natAbs.log2 < 1920) → PyData.weightAll (l.map .int) ≤ 2000 * l.length := fun l => by
    induction l with
    | nil => intro _; exact Nat.le_refl _
    | cons x l ih =>
      intro h
      have h1 := h x List.mem_cons_self
      have h2 := ih fun n hn => h n (List.mem_cons_of_mem _ hn)
      simp only [List.map_cons, PyData.weightAll, PyData.weight, List.length_cons]
      split <;> omega
  refine ⟨?_, ?_, ?_, by rw [dep_t]; decide⟩
  · simp only [PyData.showable]
    exact PyData.showableAll_ints ns big
  · simp only [PyData.hasDict]
    exact hd ns
  · refine Nat.le_trans (PyProof.Rows.shown_le13 ?_ ?_) (show 15728653 ≤ sizeLine by decide)
    · have h1 := hw ns big
      show (PyData.canLay0 _ && decide (PyData.depth _ ≤ 64) && decide (PyData.weight _ ≤ 2 ^ 20)) = true
      rw [Bool.and_eq_true, Bool.and_eq_true, decide_eq_true_eq, decide_eq_true_eq]
      refine ⟨⟨?_, by rw [dep_t]; decide⟩, ?_⟩
      · simp only [PyData.canLay0]
        exact lay_I ns
      · simp only [PyData.weight]
        refine Nat.le_trans h1 ?_
        have : 2000 * ns.length ≤ 2000 * 100 := Nat.mul_le_mul_left _ hl
        omega
    · simp only [PyData.intsShort]
      exact PyProof.Rows.intsShortAll_ints2 ns fun n hn => by have := hb n hn; omega
end PB

/-! PV: enumerate(zip(a, b)) by two names: the index, the pair as a whole. -/
namespace PB
open PySem PySem.Spec L2
open PyProof.Rows hiding St
section
variable {prog : Program} {w : World} {A : Around} {E : Value → Shared → Prop} {s : Shared} {e z TI TO i1 i2 : Addr} {fp1 fp2 : List Addr} {n1 n2 i : Nat} {c : Int} {old : Value} {P1 P2 : Nat → Value → Prop} {St1 St2 : Nat → Heap → Prop}
theorem nextOf_zip {Q : Value → Shared → Prop} (S : ZipSep2 z TI TO i1 i2 fp1 fp2) (D1 : Draws prog w A.in1 i1 fp1 n1 P1 St1) (D2 : Draws prog w A.in1 i2 fp2 n2 P2 St2)
    (hz : ZipG s.heap z TI TO) (hTI : IsTupOf2 s.heap TI (.ref i1) (.ref i2)) (hTO : ∃ a1 a2, IsTupOf2 s.heap TO a1 a2) (st1 : St1 i s.heap) (st2 : St2 i s.heap) (hlt1 : i < n1) (hlt2 : i < n2)
    (hQ : ∀ x1 x2 h' tk, P1 i x1 → P2 i x2 → ZipG h' z TI TO → (∃ a1 a2, IsTupOf2 h' TO a1 a2) → St1 (i + 1) h' → St2 (i + 1) h' → IsTupOf2 h' s.heap.objs.size x1 x2 →
      (∀ c o, c ≠ z → c ≠ TO → c ≠ i1 → c ≠ i2 → s.heap.get? c = some o → h'.get? c = some o) → Q (.ref s.heap.objs.size) { s with heap := h', toks := tk }) :
    wpAny (model prog w) A (Builtin.SmallTypes.nextOf (.ref z)) Q E s := by
  have hT : s.TypeIs (.ref z) "zip" := by obtain ⟨_, _, hz, _⟩ := hz; exact ⟨_, hz, rfl⟩
  unfold Builtin.SmallTypes.nextOf
  exact wpAny_bind (wpAny_callSpecial?_slot (name := Str.ofString "__next__") hT F.slot_zip_next
    (wpAny_call_entry F.slot_zip_next hT F.entry_zip_next
      (zipG_item S D1 D2 hz hTI hTO st1 st2 hlt1 hlt2 fun x1 x2 h' tk y1 y2 b1 b2 d1 d2 b5 b7 => wpAny_pure (hQ x1 x2 h' tk y1 y2 b1 b2 d1 d2 b5 b7)) (F.args_zip_next_1 _)))
theorem nextOf_zip_end {Q : Value → Shared → Prop} (S : ZipSep2 z TI TO i1 i2 fp1 fp2) (D1 : Draws prog w A.in1 i1 fp1 n1 P1 St1) (D2 : Draws prog w A.in1 i2 fp2 n2 P2 St2)
    (hz : ZipG s.heap z TI TO) (hTI : IsTupOf2 s.heap TI (.ref i1) (.ref i2)) (hTO : ∃ a1 a2, IsTupOf2 s.heap TO a1 a2) (st1 : St1 i s.heap) (st2 : St2 i s.heap) (hle1 : i ≤ n1) (hle2 : i ≤ n2) (hend : i = n1 ∨ i = n2)
    (hE : ∀ h' tk e, (∀ c o, c ≠ z → c ≠ TO → c ≠ i1 → c ≠ i2 → s.heap.get? c = some o → h'.get? c = some o) → (∃ o, h'.get? e = some o ∧ o.cls = .type "StopIteration") → E (.ref e) { s with heap := h', toks := tk }) :
    wpAny (model prog w) A (Builtin.SmallTypes.nextOf (.ref z)) Q E s := by
  have hT : s.TypeIs (.ref z) "zip" := by obtain ⟨_, _, hz, _⟩ := hz; exact ⟨_, hz, rfl⟩
  unfold Builtin.SmallTypes.nextOf
  exact wpAny_bind (wpAny_callSpecial?_slot (name := Str.ofString "__next__") hT F.slot_zip_next
    (wpAny_call_entry F.slot_zip_next hT F.entry_zip_next (zipG_end S D1 D2 hz hTI hTO st1 st2 hle1 hle2 hend fun h' tk e hk he => hE h' tk e hk he) (F.args_zip_next_1 _)))
/-- the next index and pair -/
theorem enumZ_item {Q : Value → Shared → Prop} (S : ZipSep2 z TI TO i1 i2 fp1 fp2) (D1 : Draws prog w A.in1 i1 fp1 n1 P1 St1) (D2 : Draws prog w A.in1 i2 fp2 n2 P2 St2) (he : IsEnum s.heap e z c old) (ez : e ≠ z) (eTO : e ≠ TO) (ei1 : e ≠ i1) (ei2 : e ≠ i2)
    (hz : ZipG s.heap z TI TO) (hTI : IsTupOf2 s.heap TI (.ref i1) (.ref i2)) (hTO : ∃ a1 a2, IsTupOf2 s.heap TO a1 a2) (st1 : St1 i s.heap) (st2 : St2 i s.heap) (hlt1 : i < n1) (hlt2 : i < n2)
    (hQ : ∀ x1 x2 hm tkm h' tk, P1 i x1 → P2 i x2 → ZipG hm z TI TO → (∃ a1 a2, IsTupOf2 hm TO a1 a2) → St1 (i + 1) hm → St2 (i + 1) hm → IsTupOf2 hm s.heap.objs.size x1 x2 →
      (∀ c o, c ≠ z → c ≠ TO → c ≠ i1 → c ≠ i2 → s.heap.get? c = some o → hm.get? c = some o) → IsEnumOut h' e z (c + 1) (.ref s.heap.objs.size) hm.objs.size →
      h'.get? hm.objs.size = some { cls := .type "tuple", data := .seq #[.int c tkm, .ref s.heap.objs.size] } → (∀ b o, b ≠ e → hm.get? b = some o → h'.get? b = some o) → Q (.ref hm.objs.size) { s with heap := h', toks := tk }) :
    wpAny (model prog w) A (Builtin.«enumerate.__next__» ⟨[.ref e], []⟩) (fun fin s' => ∃ v, fin = .done (.ret v) ∧ Q v s') E s := by
  obtain ⟨hp, g, d, tk₀, os⟩ := s
  show wpAny _ _ (field (.ref e) 2 >>= _) _ _ _
  refine wpAny_bind (wpAny_field he rfl (x := .ref z) rfl ?_)
  refine wpAny_bind (nextOf_zip S D1 D2 hz hTI hTO st1 st2 hlt1 hlt2 fun x1 x2 h₁ tk y1 y2 b1 b2 d1 d2 b5 b7 => ?_)
  replace b7 : ∀ c o, c ≠ z → c ≠ TO → c ≠ i1 → c ≠ i2 → hp.get? c = some o → h₁.get? c = some o := b7
  replace b5 : IsTupOf2 h₁ hp.objs.size x1 x2 := b5
  show wpAny _ _ (field (.ref e) 3 >>= _) _ _ ⟨h₁, g, d, tk, os⟩
  have he₁ : IsEnum h₁ e z c old := b7 _ _ ez eTO ei1 ei2 he
  refine wpAny_bind (wpAny_field he₁ rfl (x := rawInt c) rfl ?_)
  show wpAny _ _ (field (.ref e) 4 >>= _) _ _ ⟨h₁, g, d, tk, os⟩
  refine wpAny_bind (wpAny_field he₁ rfl (x := .none) rfl ?_)
  show wpAny _ _ (mkInt c >>= _) _ _ ⟨h₁, g, d, tk, os⟩
  refine wpAny_bind (wpAny_mkInt ?_)
  show wpAny _ _ (setField (.ref e) 3 (rawInt (c + 1)) >>= _) _ _ ⟨h₁, g, d, tk + 1, os⟩
  refine wpAny_bind (wpAny_setField_rec he₁ (by simp) fun h₂ he₂ hs₂ => ?_)
  replace hs₂ : Heap.SameBut e h₁ h₂ := hs₂
  replace he₂ : IsEnum h₂ e z (c + 1) old := he₂
  show wpAny _ _ (setField (.ref e) 4 .none >>= _) _ _ ⟨h₂, g, d, tk + 1, os⟩
  refine wpAny_bind (wpAny_setField_rec he₂ (by simp) fun h₃ he₃ hs₃ => ?_)
  replace hs₃ : Heap.SameBut e h₂ h₃ := hs₃
  replace he₃ : IsEnum h₃ e z (c + 1) old := he₃
  show wpAny _ _ (newTuple [.int c tk, .ref hp.objs.size] >>= _) _ _ ⟨h₃, g, d, tk + 1, os⟩
  refine wpAny_bind (wpAny_newTuple ?_)
  have he₄ : IsEnum (h₃.push { cls := .type "tuple", data := .seq #[.int c tk, .ref hp.objs.size] }) e z (c + 1) old := Heap.get?_push_of_some _ he₃
  have hsz : h₃.objs.size = h₁.objs.size := by rw [hs₃.1, hs₂.1]
  have hel : e < h₁.objs.size := Heap.lt_size he₁
  have ht₄ : (h₃.push { cls := .type "tuple", data := .seq #[.int c tk, .ref hp.objs.size] }).get? h₁.objs.size = some { cls := .type "tuple", data := .seq #[.int c tk, .ref hp.objs.size] } := by rw [← hsz]; exact Heap.get?_push_size _ rfl
  have hk₄ : ∀ b o, b ≠ e → h₁.get? b = some o → (h₃.push { cls := .type "tuple", data := .seq #[.int c tk, .ref hp.objs.size] }).get? b = some o := fun b o hbe hb =>
    Heap.get?_push_of_some _ (hs₃.extBut b o hbe (hs₂.extBut b o hbe hb))
  generalize h₃.push { cls := .type "tuple", data := .seq #[.int c tk, .ref hp.objs.size] } = h₄ at he₄ ht₄ hk₄ ⊢
  show wpAny _ _ (Builtin.SmallTypes.ownedTupleIsFree (.ref e) >>= _) _ _ ⟨h₄, g, d, tk + 1, os⟩
  rw [hsz]
  refine wpAny_bind ?_
  unfold Builtin.SmallTypes.ownedTupleIsFree
  refine wpAny_bind (wpAny_field he₄ rfl (x := .none) rfl (wpAny_pure ?_))
  simp only [if_true]
  refine wpAny_bind (wpAny_rule ?_)
  refine wpAny_bind (wpAny_field he₄ rfl (x := old) rfl ?_)
  refine wpAny_bind (wpAny_setField_rec he₄ (by simp) fun h₅ he₅ hs₅ => ?_)
  replace hs₅ : Heap.SameBut e h₄ h₅ := hs₅
  replace he₅ : IsEnum h₅ e z (c + 1) (.ref hp.objs.size) := he₅
  show wpAny _ _ (Builtin.SmallTypes.ownedTupleHandOut (.ref e) (.ref h₁.objs.size) >>= _) _ _ ⟨h₅, g, d, tk + 1, os⟩
  refine wpAny_bind ?_
  unfold Builtin.SmallTypes.ownedTupleHandOut
  refine wpAny_bind (wpAny_setField_rec he₅ (by simp) fun h₆ he₆ hs₆ => ?_)
  replace hs₆ : Heap.SameBut e h₅ h₆ := hs₆
  replace he₆ : IsEnumOut h₆ e z (c + 1) (.ref hp.objs.size) h₁.objs.size := he₆
  refine wpAny_setField_rec he₆ (by simp) fun h₇ he₇ hs₇ => ?_
  replace hs₇ : Heap.SameBut e h₆ h₇ := hs₇
  replace he₇ : IsEnumOut h₇ e z (c + 1) (.ref hp.objs.size) h₁.objs.size := he₇
  have up : ∀ b o, b ≠ e → h₄.get? b = some o → h₇.get? b = some o := fun b o hbe hb => hs₇.extBut b o hbe (hs₆.extBut b o hbe (hs₅.extBut b o hbe hb))
  exact wpAny_bind (wpAny_letGo (wpAny_pure ⟨_, rfl, hQ x1 x2 h₁ tk h₇ (tk + 1) y1 y2 b1 b2 d1 d2 b5 b7 he₇ (up _ _ (Nat.ne_of_gt hel) ht₄) fun b o hbe hb => up b o hbe (hk₄ b o hbe hb)⟩))
theorem enumZ_next_item {Q : Option Value → Shared → Prop} (S : ZipSep2 z TI TO i1 i2 fp1 fp2) (D1 : Draws prog w A.in1.in1 i1 fp1 n1 P1 St1) (D2 : Draws prog w A.in1.in1 i2 fp2 n2 P2 St2) (he : IsEnum s.heap e z c old) (ez : e ≠ z) (eTO : e ≠ TO) (ei1 : e ≠ i1) (ei2 : e ≠ i2)
    (hz : ZipG s.heap z TI TO) (hTI : IsTupOf2 s.heap TI (.ref i1) (.ref i2)) (hTO : ∃ a1 a2, IsTupOf2 s.heap TO a1 a2) (st1 : St1 i s.heap) (st2 : St2 i s.heap) (hlt1 : i < n1) (hlt2 : i < n2)
    (hQ : ∀ x1 x2 hm tkm h' tk, P1 i x1 → P2 i x2 → ZipG hm z TI TO → (∃ a1 a2, IsTupOf2 hm TO a1 a2) → St1 (i + 1) hm → St2 (i + 1) hm → IsTupOf2 hm s.heap.objs.size x1 x2 →
      (∀ c o, c ≠ z → c ≠ TO → c ≠ i1 → c ≠ i2 → s.heap.get? c = some o → hm.get? c = some o) → IsEnumOut h' e z (c + 1) (.ref s.heap.objs.size) hm.objs.size →
      h'.get? hm.objs.size = some { cls := .type "tuple", data := .seq #[.int c tkm, .ref s.heap.objs.size] } → (∀ b o, b ≠ e → hm.get? b = some o → h'.get? b = some o) → Q (some (.ref hm.objs.size)) { s with heap := h', toks := tk }) :
    wpAny (model prog w) A (pyNext (.ref e)) Q E s := by
  have hT : s.TypeIs (.ref e) "enumerate" := ⟨_, he, rfl⟩
  unfold pyNext
  exact wpAny_bind (wpAny_attempt (wpAny_callSpecial?_slot (name := Str.ofString "__next__") hT F.slot_enumerate_next
    (wpAny_call_entry F.slot_enumerate_next hT F.entry_enumerate_next
      (enumZ_item S D1 D2 he ez eTO ei1 ei2 hz hTI hTO st1 st2 hlt1 hlt2 fun x1 x2 hm tkm h' tk y1 y2 b1 b2 d1 d2 b5 b7 u1 u2 u3 => wpAny_pure (hQ x1 x2 hm tkm h' tk y1 y2 b1 b2 d1 d2 b5 b7 u1 u2 u3)) (F.args_enumerate_next_1 _))))
theorem enumZ_next_end {Q : Option Value → Shared → Prop} (S : ZipSep2 z TI TO i1 i2 fp1 fp2) (D1 : Draws prog w A.in1.in1 i1 fp1 n1 P1 St1) (D2 : Draws prog w A.in1.in1 i2 fp2 n2 P2 St2) (he : IsEnum s.heap e z c old)
    (hz : ZipG s.heap z TI TO) (hTI : IsTupOf2 s.heap TI (.ref i1) (.ref i2)) (hTO : ∃ a1 a2, IsTupOf2 s.heap TO a1 a2) (st1 : St1 i s.heap) (st2 : St2 i s.heap) (hle1 : i ≤ n1) (hle2 : i ≤ n2) (hend : i = n1 ∨ i = n2)
    (hQ : ∀ h' tk, (∀ c o, c ≠ z → c ≠ TO → c ≠ i1 → c ≠ i2 → s.heap.get? c = some o → h'.get? c = some o) → Q none { s with heap := h', toks := tk }) : wpAny (model prog w) A (pyNext (.ref e)) Q E s := by
  have hT : s.TypeIs (.ref e) "enumerate" := ⟨_, he, rfl⟩
  unfold pyNext
  refine wpAny_bind (wpAny_attempt (wpAny_callSpecial?_slot (name := Str.ofString "__next__") hT F.slot_enumerate_next
    (wpAny_call_entry F.slot_enumerate_next hT F.entry_enumerate_next ?_ (F.args_enumerate_next_1 _))))
  show wpAny _ _ (field (.ref e) 2 >>= _) _ _ _
  refine wpAny_bind (wpAny_field he rfl (x := .ref z) rfl ?_)
  refine wpAny_bind (nextOf_zip_end S D1 D2 hz hTI hTO st1 st2 hle1 hle2 hend fun h' tk x hk hx => ?_)
  obtain ⟨o, ho, hc⟩ := hx
  refine wpAny_bind (wpAny_isInstance (T := "StopIteration") (b := true) ⟨o, ho, hc⟩ isSubtype_stop ?_)
  exact wpAny_pure (hQ _ _ hk)
end
/-- the pairs of two sources, each with its index -/
def ItEZ (K : PySem.W.Frag) (k1 k2 : Sk) (a b : Addr) : It :=
  ⟨fun i H => ∃ (xs ys : List V) (x y : V), k1.at K H a xs ∧ k2.at K H b ys ∧ xs[i]? = some x ∧ ys[i]? = some y,
    fun i H v H' => ∃ T U x y, v = .ref U ∧ H T = none ∧ H U = none ∧ T ≠ U ∧ H' = upd (upd H T (.tup [x, y])) U (.tup [.int (i : Nat), .ref T]) ∧ (∀ xs, k1.at K H a xs → xs[i]? = some x) ∧ ∀ ys, k2.at K H b ys → ys[i]? = some y,
    fun i H => ∃ xs ys : List V, k1.at K H a xs ∧ k2.at K H b ys ∧ i = min xs.length ys.length⟩
theorem turn_ez {P : Program} {w : World} {K : PySem.W.Frag} {elts : List Expr} {kk : Nat} {tpos : Pos} {k1 k2 : Sk} {a b e z TI TO i1 i2 : Addr} (S : ZipSep2 z TI TO i1 i2 [i1, a] [i2, b]) (n1 : a ≠ i1) (n2 : b ≠ i2) (ez : e ≠ z) (eTI : e ≠ TI) (eTO : e ≠ TO) (ei1 : e ≠ i1) (ei2 : e ≠ i2) (ea : e ≠ a) (eb : e ≠ b) :
    Turn P w K (.Tuple elts kk tpos) (ItEZ K k1 k2 a b) [e, z, TI, TO, i1, i2] e (fun i h => (∃ old, IsEnum h e z (i : Nat) old) ∧ ZipG h z TI TO ∧ IsTupOf2 h TI (.ref i1) (.ref i2) ∧ (∃ x y, IsTupOf2 h TO x y) ∧ k1.iter h i1 a i ∧ k2.iter h i2 b i) where
  mem := by simp
  obj := fun i h st c hc => by
    obtain ⟨⟨_, he⟩, ⟨_, _, hz, _⟩, hTI, ⟨x, y, hTO⟩, h1, h2⟩ := st
    simp only [List.mem_cons, List.not_mem_nil, or_false] at hc
    rcases hc with q | q | q | q | q | q <;> subst q
    · exact ⟨_, he, fun v q => nomatch q⟩
    · exact ⟨_, hz, fun v q => nomatch q⟩
    · exact ⟨_, hTI, fun v q => nomatch q⟩
    · exact ⟨_, hTO, fun v q => nomatch q⟩
    · exact k1.there h1
    · exact k2.there h2
  keep := fun i h h' st kp => by
    obtain ⟨⟨old, he⟩, ⟨f0, f1, hz, l⟩, hTI, ⟨x, y, hTO⟩, h1, h2⟩ := st
    exact ⟨⟨old, kp e (by simp) _ he⟩, ⟨f0, f1, kp z (by simp) _ hz, l⟩, kp TI (by simp) _ hTI, ⟨x, y, kp TO (by simp) _ hTO⟩, k1.keep h1 fun o q => kp i1 (by simp) o q, k2.keep h2 fun o q => kp i2 (by simp) o q⟩
  item := by
    intro X hP hw hK hc i pins s σ H E I hf st hg
    subst hP hw hK
    obtain ⟨⟨old, he⟩, hz, hTI, hTO, h1, h2⟩ := st
    obtain ⟨xs, ys, x, y, qx, qy, hx, hy⟩ := hg
    obtain ⟨us, r1, p1, la⟩ := k1.inv I qx
    obtain ⟨vs, r2, p2, lb⟩ := k2.inv I qy
    have hh : X.A.in1.in1.handled = none := I.ok.hd hc
    have l1 : i < us.toArray.size := by
      have := (List.getElem?_eq_some_iff.mp hx).1
      rw [r1.length] at this
      simpa using this
    have l2 : i < vs.toArray.size := by
      have := (List.getElem?_eq_some_iff.mp hy).1
      rw [r2.length] at this
      simpa using this
    have ltz : z < s.heap.objs.size := by obtain ⟨_, _, hz, _⟩ := hz; exact Heap.lt_size hz
    have ltTO : TO < s.heap.objs.size := by obtain ⟨_, _, q⟩ := hTO; exact Heap.lt_size q
    have lt1 : i1 < s.heap.objs.size := by obtain ⟨_, q, _⟩ := k1.there h1; exact Heap.lt_size q
    have lt2 : i2 < s.heap.objs.size := by obtain ⟨_, q, _⟩ := k2.there h2; exact Heap.lt_size q
    have lte : e < s.heap.objs.size := Heap.lt_size he
    refine enumZ_next_item S (k1.draws hh i1 a n1 us.toArray) (k2.draws hh i2 b n2 vs.toArray) he ez eTO ei1 ei2 hz hTI hTO ⟨h1, p1⟩ ⟨h2, p2⟩ l1 l2 fun u u2 hm tkm h' tk e1 e2 hz' hTO' s1' s2' hT kp ho hU kp2 => ⟨_, rfl, ?_⟩
    obtain ⟨h1', _⟩ := s1'
    obtain ⟨h2', _⟩ := s2'
    have ltm : s.heap.objs.size < hm.objs.size := Heap.lt_size hT
    have new : ObjOk X.prog X.w (upd H s.heap.objs.size (.tup [x, y])) hm s.heap.objs.size (.tup [x, y]) :=
      ⟨by show 2 ≤ sizeLine; decide, [u, u2], .cons (get_of r1 hx e1) (.cons (get_of r2 hy e2) .nil), ⟨_, hT, rfl, _, rfl⟩⟩
    have sub : ∀ c, c ∈ [z, TO, i1, i2] → c ∈ [e, z, TI, TO, i1, i2] := fun c hc => by
      simp only [List.mem_cons, List.not_mem_nil, or_false] at hc ⊢
      rcases hc with q | q | q | q
      · exact .inr (.inl q)
      · exact .inr (.inr (.inr (.inl q)))
      · exact .inr (.inr (.inr (.inr (.inl q))))
      · exact .inr (.inr (.inr (.inr (.inr q))))
    have kp' : ∀ c o, c ∉ [z, TO, i1, i2] → s.heap.get? c = some o → hm.get? c = some o := fun c o hb q => kp c o (fun e => hb (by simp [e])) (fun e => hb (by simp [e])) (fun e => hb (by simp [e])) (fun e => hb (by simp [e])) q
    have I1 : Inv X pins σ (upd H s.heap.objs.size (.tup [x, y])) { s with heap := hm, toks := tkm } := I.turnedNew (ch := [z, TO, i1, i2]) kp' (fun c hc => hf c (sub c hc)) (Nat.le_refl _) new
    refine wpAny_letOwnedTupleGo_enum ho fun h3 he3 hs3 => ?_
    replace hs3 : Heap.SameBut e h' h3 := hs3
    have kp3 : ∀ b o, b ≠ e → hm.get? b = some o → h3.get? b = some o := fun b o hb q => hs3.extBut b o hb (kp2 b o hb q)
    have new2 : ObjOk X.prog X.w (upd (upd H s.heap.objs.size (.tup [x, y])) hm.objs.size (.tup [.int (i : Nat), .ref s.heap.objs.size])) h3 hm.objs.size (.tup [.int (i : Nat), .ref s.heap.objs.size]) :=
      ⟨by show 2 ≤ sizeLine; decide, [.int (i : Nat) tkm, .ref s.heap.objs.size], .cons ⟨tkm, rfl⟩ (.cons rfl .nil), ⟨_, hs3.extBut _ _ (Nat.ne_of_gt (Nat.lt_trans lte ltm)) hU, rfl, _, rfl⟩⟩
    have fe : FpOk X pins (upd H s.heap.objs.size (.tup [x, y])) e := by
      have q := hf e (by simp)
      exact ⟨(upd_ne (Nat.ne_of_lt lte)).trans q.1, q.2⟩
    have I2 : Inv X pins σ (upd (upd H s.heap.objs.size (.tup [x, y])) hm.objs.size (.tup [.int (i : Nat), .ref s.heap.objs.size])) { s with heap := h3, toks := tk } :=
      I1.turnedNew (t' := tk) (ch := [e]) (fun c o hb q => kp3 c o (fun z => hb (by simp [z])) q) (fun c hc => by rw [List.mem_singleton.mp hc]; exact fe) (Nat.le_refl _) new2
    have hTI' : IsTupOf2 h3 TI (.ref i1) (.ref i2) := kp3 _ _ (Ne.symm eTI) (kp _ _ S.TIz S.TITO S.TIi1 S.TIi2 hTI)
    have hz3 : ZipG h3 z TI TO := by obtain ⟨f0, f1, q, l⟩ := hz'; exact ⟨f0, f1, kp3 _ _ (Ne.symm ez) q, l⟩
    have hTO3 : ∃ x y, IsTupOf2 h3 TO x y := by obtain ⟨x, y, q⟩ := hTO'; exact ⟨x, y, kp3 _ _ (Ne.symm eTO) q⟩
    have i13 : k1.iter h3 i1 a (i + 1) := k1.keep h1' fun o q => kp3 _ _ (Ne.symm ei1) q
    have i23 : k2.iter h3 i2 b (i + 1) := k2.keep h2' fun o q => kp3 _ _ (Ne.symm ei2) q
    refine ⟨.ref hm.objs.size, _, I2, rfl, ⟨s.heap.objs.size, hm.objs.size, x, y, rfl, I.hok.fresh (Nat.le_refl _), I.hok.fresh (Nat.le_of_lt ltm), Nat.ne_of_lt ltm, rfl, fun l hl => by rw [k1.inj I hl qx]; exact hx, fun l hl => by rw [k2.inj I hl qy]; exact hy⟩, ⟨⟨_, by rw [Int.natCast_add]; exact he3⟩, hz3, hTI', hTO3, i13, i23⟩, fun c hc => ?_⟩
    have lt : c < s.heap.objs.size := by
      simp only [List.mem_cons, List.not_mem_nil, or_false] at hc
      rcases hc with q | q | q | q | q | q <;> rw [q]
      · exact lte
      · exact ltz
      · exact Heap.lt_size hTI
      · exact ltTO
      · exact lt1
      · exact lt2
    rw [upd_ne (Nat.ne_of_lt (Nat.lt_trans lt ltm)), upd_ne (Nat.ne_of_lt lt)]
    exact (hf c hc).1
  done := by
    intro X hP hw hK hc i pins s σ H E I hf st hg
    subst hP hw hK
    obtain ⟨⟨old, he⟩, hz, hTI, hTO, h1, h2⟩ := st
    obtain ⟨xs, ys, qx, qy, hi⟩ := hg
    obtain ⟨us, r1, p1, _⟩ := k1.inv I qx
    obtain ⟨vs, r2, p2, _⟩ := k2.inv I qy
    have hh : X.A.in1.in1.handled = none := I.ok.hd hc
    have l1 : xs.length = us.toArray.size := by rw [List.size_toArray]; exact r1.length
    have l2 : ys.length = vs.toArray.size := by rw [List.size_toArray]; exact r2.length
    have sub : ∀ c, c ∈ [z, TO, i1, i2] → c ∈ [e, z, TI, TO, i1, i2] := fun c hc => by
      simp only [List.mem_cons, List.not_mem_nil, or_false] at hc ⊢
      rcases hc with q | q | q | q
      · exact .inr (.inl q)
      · exact .inr (.inr (.inr (.inl q)))
      · exact .inr (.inr (.inr (.inr (.inl q))))
      · exact .inr (.inr (.inr (.inr (.inr q))))
    refine enumZ_next_end S (k1.draws hh i1 a n1 us.toArray) (k2.draws hh i2 b n2 vs.toArray) he hz hTI hTO ⟨h1, p1⟩ ⟨h2, p2⟩ (by omega) (by omega) (by omega) fun h' tk kp => ⟨rfl, ?_⟩
    exact I.turnedL (ch := [z, TO, i1, i2]) (fun c o hb q => kp c o (fun e => hb (by simp [e])) (fun e => hb (by simp [e])) (fun e => hb (by simp [e])) (fun e => hb (by simp [e])) q) (fun c hc => hf c (sub c hc))
  self := fun A i s Q E st h => let ⟨⟨_, he⟩, _⟩ := st; wpAny_pyIter_enum he h
set_option maxHeartbeats 8000000 in
theorem enum_newZ {z TI TO : Addr} : Meets (Builtin.«enumerate.__new__» ⟨[.type "enumerate", .ref z], []⟩) fun _ R s => IsZip s.heap z TI TO .none ∧
      R (.ok (.ret (.ref s.heap.objs.size))) { s with heap := s.heap.push { cls := .type "enumerate", data := .fields #[.none, .bool false, .ref z, rawInt 0, .none, .none] } } :=
  .of_wp fun prog w A R s h => by
    obtain ⟨hp, g, d, tk, os⟩ := s
    obtain ⟨h1, h⟩ := h
    have sb := sub_enumerate
    have q1 : ∀ {A' : Around} {E Q : Value → Shared → Prop}, Q (.ref z) ⟨hp, g, d, tk, os⟩ → wpAny (model prog w) A' (pyIter (.ref z)) Q E ⟨hp, g, d, tk, os⟩ := fun q => wpAny_pyIter_zip h1 q
    wp_walk using q1
    refine wpAny_stack_any fun st => wpAny_pure ?_
    split
    · rename_i c _ _ _ _ _
      cases (c == Value.type "enumerate") <;> (wp_walk using q1; exact ⟨_, rfl, h⟩)
    · wp_walk using q1
      exact ⟨_, rfl, h⟩
theorem enum_beginsZ {prog : Program} {w : World} {A : Around} {E Q : Value → Shared → Prop} {s : Shared} {z TI TO : Addr} (h1 : IsZip s.heap z TI TO .none)
    (h : ∀ h', IsEnum h' s.heap.objs.size z 0 .none → (∀ b u, s.heap.get? b = some u → h'.get? b = some u) → Q (.ref s.heap.objs.size) { s with heap := h' }) :
    wpAny (model prog w) A (call (.type "enumerate") [.ref z]) Q E s := by
  refine callType_new F.called_enumerate (by decide) (F.typeCall_enumerate_1 _) (F.newCall_enumerate_1 _) (fun x => F.args_object_init_2 x _) F.entry_enumerate_new enum_newZ ⟨h1, ?_⟩
  show _ ∧ _
  have he : IsEnum (s.heap.push { cls := .type "enumerate", data := .fields #[.none, .bool false, .ref z, rawInt 0, .none, .none] }) s.heap.objs.size z 0 .none := Heap.get?_push_size _ rfl
  exact ⟨⟨_, he, rfl⟩, h _ he fun b u x => Heap.get?_push_of_some _ x⟩
def iEZ (K : PySem.W.Frag) (ta : TA) : TI := fun σ H R => ta σ H fun vs H1 => ∃ (k1 k2 : Sk) (a b : Addr) (xs ys : List V), vs = [.ref a, .ref b] ∧ k1.at K H1 a xs ∧ k2.at K H1 b ys ∧ R (ItEZ K k1 k2 a b) H1
theorem pi_ez {X : Cx} {K : PySem.W.Frag} {e e2 : Expr} {ta : TA} {p p2 pos pos2 tpos : Pos} {elts : List Expr} {kk : Nat} (eK : X.K = K) (hg : Gl X "enumerate") (hm : X.mg "enumerate" = none) (hg2 : Gl X "zip") (hm2 : X.mg "zip" = none) (ha : PA X [e, e2] ta)
    (hs0 : starEach [.Call (.Name "zip" p2) [e, e2] [] pos2] X.env = [(false, eval (.Call (.Name "zip" p2) [e, e2] [] pos2) X.env)] := by rfl)
    (hs : starEach [e, e2] X.env = (false, eval e X.env) :: starEach [e2] X.env := by rfl) (hpl : (backTo pos2 (starEach [e2] X.env)).any (·.1) = false := by rfl) :
    PI X (.Tuple elts kk tpos) (.Call (.Name "enumerate" p) [.Call (.Name "zip" p2) [e, e2] [] pos2] [] pos) (iEZ K ta) := by
  subst eK
  refine ⟨fun pins s σ H R I h => ?_⟩
  refine Call_ (ld_blt I hg hm boot_enumerate (PyProof.Rows.callWith_type1 ?_ hs0 rfl))
  rw [hs0]
  show wpAny _ _ (spliced ((false, eval (.Call (.Name "zip" p2) [e, e2] [] pos2) X.env) :: backTo pos (starEach [] X.env))) _ _ s
  refine Calls.spliced_cons ?_
  refine Call_ (ld_blt I hg2 hm2 PyProof.Rows.boot_zip (PyProof.Rows.callWith_type1 (thn (ha.run pos2 pins s σ H _ I h) fun us s1 ⟨vs, H1, I1, r1, q1⟩ => ?_) hs hpl))
  obtain ⟨k1, k2, a, b, xs, ys, ex, qx, qy, q⟩ := q1
  subst ex
  obtain ⟨u1, u2, rfl, ra, rb⟩ := vals2 r1
  obtain rfl : u1 = Value.ref a := ra
  obtain rfl : u2 = Value.ref b := rb
  obtain ⟨its, _, p1, la⟩ := k1.inv I1 qx
  obtain ⟨its2, _, p2, lb⟩ := k2.inv I1 qy
  refine zip_begins2 (k1.begins a its.toArray) (k2.begins b its2.toArray) p1 p2 fun h' hz hTI hTO e1 e2 sz hk => ?_
  have I2 : Inv X pins σ H1 { s1 with heap := h' } := I1.kept (t' := s1.toks) hk
  refine Calls.spliced_nil ?_
  have S := zip_sep2 (N := s1.heap.objs.size) (fp1 := [a]) (fp2 := [b]) (fun c hc => by rw [List.mem_singleton.mp hc]; exact la) (fun c hc => by rw [List.mem_singleton.mp hc]; exact lb)
  have la' : (a : Nat) < s1.heap.objs.size := la
  have lb' : (b : Nat) < s1.heap.objs.size := lb
  have far : ∀ {c : Nat}, c < s1.heap.objs.size + 5 → (h'.objs.size : Nat) ≠ c := fun hc => by omega
  refine enum_beginsZ (s := { s1 with heap := h' }) hz fun h2 he hk2 => wpAny_pyIter_enum he ?_
  have I3 : Inv X pins σ H1 { s1 with heap := h2 } := I2.kept (t' := s1.toks) hk2
  refine ⟨h'.objs.size, [h'.objs.size, s1.heap.objs.size + 4, s1.heap.objs.size + 2, s1.heap.objs.size + 3, s1.heap.objs.size, s1.heap.objs.size + 1], _, _, H1, rfl, I3,
    turn_ez S (Nat.ne_of_lt la) (Nat.ne_of_lt (Nat.lt_succ_of_lt lb)) (far (by omega)) (far (by omega)) (far (by omega)) (far (by omega)) (far (by omega)) (far (Nat.lt_of_lt_of_le la (Nat.le_add_right _ _))) (far (Nat.lt_of_lt_of_le lb (Nat.le_add_right _ _))),
    ⟨⟨_, he⟩, ⟨_, _, hk2 _ _ hz, .inl rfl⟩, hk2 _ _ hTI, ⟨_, _, hk2 _ _ hTO⟩, k1.start (hk2 _ _ e1), k2.start (hk2 _ _ e2)⟩, fun c hc => ?_, q⟩
  have hle : s1.heap.objs.size ≤ c := by
    simp only [List.mem_cons, List.not_mem_nil, or_false] at hc
    rcases hc with z | z | z | z | z | z <;> rw [z]
    · rw [sz]; exact Nat.le_add_right _ _
    · exact Nat.le_add_right _ _
    · exact Nat.le_add_right _ _
    · exact Nat.le_add_right _ _
    · exact Nat.le_refl _
    · exact Nat.le_add_right _ _
  exact I1.fpOk hle (I1.hok.fresh hle)
def ezQ (K : PySem.W.Frag) (R : It → Hp → Prop) : List V → Hp → Prop := fun vs H1 => ∃ (k1 k2 : Sk) (a b : Addr) (xs ys : List V), vs = [.ref a, .ref b] ∧ k1.at K H1 a xs ∧ k2.at K H1 b ys ∧ R (ItEZ K k1 k2 a b) H1
/-- what each turn brings -/
def YEZ (f g : Nat → Option V) : Nat → Hp → V → Hp → Prop := fun i H v H' => ∃ T U x y, v = .ref U ∧ H T = none ∧ H U = none ∧ T ≠ U ∧ H' = upd (upd H T (.tup [x, y])) U (.tup [.int (i : Nat), .ref T]) ∧ f i = some x ∧ g i = some y
section
variable {σ : St} {H : Hp} {D : Ends} {K : PySem.W.Frag} {tb : TS} {ta : TA} {R : It → Hp → Prop} {n : Nat} {a b : Addr} {xs ys : List V}
theorem r_iEZ (h : ta σ H (ezQ K R)) : iEZ K ta σ H R := h
theorem walk_EZ {k1 k2 : Sk} {n : Nat} (hn : n = min xs.length ys.length) : Walk (ItEZ K k1 k2 a b) n (fun H => k1.at K H a xs ∧ k2.at K H b ys) (YEZ (fun i => xs[i]?) (fun i => ys[i]?)) := by
  subst hn
  refine ⟨fun i _ hi q => ?_, fun _ q => ⟨xs, ys, q.1, q.2, rfl⟩, fun i H v H' _ q y => ?_⟩
  · have h1 : i < xs.length := by omega
    have h2 : i < ys.length := by omega
    exact ⟨xs, ys, xs[i], ys[i], q.1, q.2, List.getElem?_eq_getElem h1, List.getElem?_eq_getElem h2⟩
  · obtain ⟨T, U, x, z, h1, h2, h3, h3', h4, h5, h6⟩ := y
    exact ⟨T, U, x, z, h1, h2, h3, h3', h4, h5 xs q.1, h6 ys q.2⟩
/-- enumerate(zip(..)) by two names -/
theorem f_ez {k1 k2 : Sk} {j l : Nat} (h1 : k1.at K H a xs) (h2 : k2.at K H b ys) (hn : n = min xs.length ys.length) (Pv : Nat → St → Hp → Prop) (h0 : Pv 0 σ H) (hG : ∀ i σ H, i ≤ n → Pv i σ H → k1.at K H a xs ∧ k2.at K H b ys)
    (hs : ∀ (i : Nat) x y T U σ H, i < n → xs[i]? = some x → ys[i]? = some y → Pv i σ H → H T = none → H U = none → T ≠ U → tb { D with nx := Pv (i + 1), ct := Pv (i + 1), bk := D.nx } ((σ.set j (some (.int (i : Nat)))).set l (some (.ref T))) (upd (upd H T (.tup [x, y])) U (.tup [.int (i : Nat), .ref T]))) (hd : ∀ σ H, Pv n σ H → D.nx σ H) :
    ezQ K (FQ (gTup K 2 (gCons (gName j) (gCons (gName l) gNil))) tb D σ) [.ref a, .ref b] H :=
  ⟨k1, k2, a, b, xs, ys, rfl, h1, h2, f_it (walk_EZ hn) Pv h0 hG (fun i x σ H H' hi p y => by
    obtain ⟨T, U, u, v, e1, t1, t2, ne, e2, e3, e4⟩ := y
    subst e1 e2
    exact g_two (hs i u v T U σ H hi e3 e4 p t1 t2 ne)) hd⟩
end
end PB

/-! PU: nested data (none, bools, ints, texts, tuples, lists) as values; texts walked, picked from, joined, repeated. -/
namespace PB
open PySem PySem.Spec L2
open PyProof.Rows hiding St
section
variable {K : PySem.W.Frag} {H H' : Hp} {v : V} {a d : Addr} {p : PyData} {vs : List V} {ds : List PyData}
def tyD : PyData → String
  | .none => "NoneType"
  | .bool _ => "bool"
  | .int _ => "int"
  | .str _ => "str"
  | .list _ => "list"
  | .tuple _ => "tuple"
  | .dict _ => "dict"
theorem IsTy.sqL {xs : List V} (h : SqL K H a xs) : IsTy K H (.ref a) "list" := by
  rcases h with (h | ⟨o, h⟩) | ⟨o, its, n, h, c, _⟩
  · exact .lst h
  · exact ⟨.base (.frz h), by decide⟩
  · exact ⟨.kList h c, by decide⟩
theorem Dp.ty (h : Dp K H v p) : IsTy K H v (tyD p) := by
  cases h with
  | non => exact .non
  | bl b => exact .bl b
  | int i => exact .int i
  | str x => exact .str x
  | lst h _ => exact .sqL h
  | tup h _ => exact .sqT h
mutual
theorem dp_mono (ml : ∀ a xs, SqL K H a xs → SqL K H' a xs) (mt : ∀ a xs, SqT K H a xs → SqT K H' a xs) : ∀ (p : PyData) (v : V), Dp K H v p → Dp K H' v p
  | .none, _, .non => .non
  | .bool _, _, .bl b => .bl b
  | .int _, _, .int i => .int i
  | .str _, _, .str x => .str x
  | .list ds, _, .lst h k => .lst (ml _ _ h) (dpAll_mono ml mt ds _ k)
  | .tuple ds, _, .tup h k => .tup (mt _ _ h) (dpAll_mono ml mt ds _ k)
theorem dpAll_mono (ml : ∀ a xs, SqL K H a xs → SqL K H' a xs) (mt : ∀ a xs, SqT K H a xs → SqT K H' a xs) : ∀ (ds : List PyData) (vs : List V), DpAll K H vs ds → DpAll K H' vs ds
  | [], _, .nil => .nil
  | d :: ds, _, .cons h k => .cons (dp_mono ml mt d _ h) (dpAll_mono ml mt ds _ k)
end
mutual
/-- no list within -/
def nl : PyData → Bool
  | .list _ | .dict _ => false
  | .tuple xs => nlAll xs
  | _ => true
def nlAll : List PyData → Bool
  | [] => true
  | x :: xs => nl x && nlAll xs
end
mutual
theorem dp_nl (mt : ∀ a xs, SqT K H a xs → SqT K H' a xs) : ∀ (p : PyData) (v : V), nl p = true → Dp K H v p → Dp K H' v p
  | .none, _, _, .non => .non
  | .bool _, _, _, .bl b => .bl b
  | .int _, _, _, .int i => .int i
  | .str _, _, _, .str x => .str x
  | .list ds, _, e, .lst h k => by simp only [nl] at e; cases e
  | .tuple ds, _, e, .tup h k => .tup (mt _ _ h) (dpAll_nl mt ds _ (by simpa only [nl] using e) k)
theorem dpAll_nl (mt : ∀ a xs, SqT K H a xs → SqT K H' a xs) : ∀ (ds : List PyData) (vs : List V), nlAll ds = true → DpAll K H vs ds → DpAll K H' vs ds
  | [], _, _, .nil => .nil
  | d :: ds, _, e, .cons h k => by
    have e' : nl d = true ∧ nlAll ds = true := by simpa only [nlAll, Bool.and_eq_true] using e
    exact .cons (dp_nl mt d _ e'.1 h) (dpAll_nl mt ds _ e'.2 k)
end
theorem nlAll_iff : ∀ ds : List PyData, nlAll ds = true ↔ ∀ p ∈ ds, nl p = true
  | [] => by simp [nlAll]
  | d :: ds => by simp [nlAll, nlAll_iff ds]
theorem Dp.ex (e : Ex H H') (h : Dp K H v p) : Dp K H' v p := dp_mono (fun _ _ => sqL_ex e) (fun _ _ => sqT_ex e) _ _ h
theorem Dp.exn (e : ExN H H') (h : Dp K H v p) : Dp K H' v p := dp_mono (fun _ _ => sqL_exn e) (fun _ _ => sqT_exn e) _ _ h
theorem DpA.ex (e : Ex H H') (h : DpAll K H vs ds) : DpAll K H' vs ds := dpAll_mono (fun _ _ => sqL_ex e) (fun _ _ => sqT_ex e) _ _ h
theorem DpA.exn (e : ExN H H') (h : DpAll K H vs ds) : DpAll K H' vs ds := dpAll_mono (fun _ _ => sqL_exn e) (fun _ _ => sqT_exn e) _ _ h
/-- a tuple where a list changes -/
theorem sqT_enL {xs zs : List V} (hd : H d = some (.lst zs)) (e : EN d H H') (h : SqT K H a xs) : SqT K H' a xs := by
  rcases h with (h | ⟨o, h⟩) | h
  · exact .inl (.inl (e _ _ (fun z => by rw [z, hd] at h; cases h) h fun _ z => by cases z))
  · exact .inl (.inr ⟨o, e _ _ (fun z => by rw [z, hd] at h; cases h) h fun _ z => by cases z⟩)
  · exact .inr h
theorem Dp.en {zs : List V} (hd : H d = some (.lst zs)) (e : EN d H H') (n : nl p = true) (h : Dp K H v p) : Dp K H' v p := dp_nl (fun _ _ => sqT_enL hd e) _ _ n h
theorem DpA.en {zs : List V} (hd : H d = some (.lst zs)) (e : EN d H H') (n : nlAll ds = true) (h : DpAll K H vs ds) : DpAll K H' vs ds := dpAll_nl (fun _ _ => sqT_enL hd e) _ _ n h
theorem Dice.lst {n : Nat} (h : Dice n H d) : ∃ zs, H d = some (.lst zs) := by
  obtain ⟨x, y, z, h, _⟩ := h
  exact ⟨_, h⟩
theorem DpA.length (h : DpAll K H vs ds) : vs.length = ds.length := by
  induction ds generalizing vs with
  | nil => cases h; rfl
  | cons d ds ih => cases h with | cons h k => rw [List.length_cons, List.length_cons, ih k]
theorem DpA.get (h : DpAll K H vs ds) {i : Nat} (e : vs[i]? = some v) : ∃ p, ds[i]? = some p ∧ Dp K H v p := by
  induction ds generalizing vs i with
  | nil => cases h; cases e
  | cons d ds ih =>
    cases h with
    | cons h k =>
      cases i with
      | zero => cases e; exact ⟨_, rfl, h⟩
      | succ i => exact ih k (by simpa using e)
theorem DpA.at (h : DpAll K H vs ds) {i : Nat} (e : ds[i]? = some p) : ∃ v, vs[i]? = some v ∧ Dp K H v p := by
  have hl := DpA.length h
  have li : i < vs.length := by rw [hl]; exact (List.getElem?_eq_some_iff.mp e).1
  obtain ⟨q, e1, e2⟩ := DpA.get h (List.getElem?_eq_getElem li)
  rw [e] at e1
  cases e1
  exact ⟨_, List.getElem?_eq_getElem li, e2⟩
theorem DpA.append {ws : List V} {es : List PyData} (h : DpAll K H vs ds) (k : DpAll K H ws es) : DpAll K H (vs ++ ws) (ds ++ es) := by
  induction ds generalizing vs with
  | nil => cases h; exact k
  | cons d ds ih => cases h with | cons h1 h2 => exact .cons h1 (ih h2)
theorem DpA.snoc (h : DpAll K H vs ds) (k : Dp K H v p) : DpAll K H (vs ++ [v]) (ds ++ [p]) := DpA.append h (.cons k .nil)
theorem DpA.drop (h : DpAll K H vs ds) (n : Nat) : DpAll K H (vs.drop n) (ds.drop n) := by
  induction n generalizing vs ds with
  | zero => exact h
  | succ n ih =>
    cases ds with
    | nil => cases h; exact .nil
    | cons d ds => cases h with | cons h1 h2 => exact ih h2
theorem DpA.take (h : DpAll K H vs ds) (n : Nat) : DpAll K H (vs.take n) (ds.take n) := by
  induction n generalizing vs ds with
  | zero => exact .nil
  | succ n ih =>
    cases ds with
    | nil => cases h; exact .nil
    | cons d ds => cases h with | cons h1 h2 => exact .cons h1 (ih h2)
theorem DpA.strs {xs : List Str} (h : DpAll K H vs (xs.map .str)) : vs = xs.map V.str := by
  induction xs generalizing vs with
  | nil => cases h; rfl
  | cons x xs ih =>
    cases h with
    | cons h1 h2 =>
      cases h1
      rw [ih h2]; rfl
end
/-! ### data compared -/
mutual
theorem eqv_refl : ∀ d : PyData, d.canLay0 = true → PyData.eqv d d = true
  | .none, _ => by simp [PyData.eqv]
  | .bool b, _ => by simp [PyData.eqv]
  | .int i, _ => by simp [PyData.eqv]
  | .str x, _ => by simp [PyData.eqv]
  | .list xs, h => by
    simp only [PyData.eqv]
    exact eqvAll_refl xs (by simpa only [PyData.canLay0] using h)
  | .tuple xs, h => by
    simp only [PyData.eqv]
    exact eqvAll_refl xs (by simpa only [PyData.canLay0] using h)
  | .dict _, h => by simp [PyData.canLay0] at h
theorem eqvAll_refl : ∀ ds : List PyData, PyData.canLayAll0 ds = true → PyData.eqvAll ds ds = true
  | [], _ => by simp [PyData.eqvAll]
  | d :: ds, h => by
    have h' : d.canLay0 = true ∧ PyData.canLayAll0 ds = true := by simpa [PyData.canLayAll0] using h
    simp only [PyData.eqvAll, eqv_refl d h'.1, eqvAll_refl ds h'.2, Bool.and_self]
end
section
variable {K : PySem.W.Frag} {H : Hp} {Q : VK} {a b : Addr} {vs ws : List V} {ds es : List PyData} {x y : Str}
theorem r_leZ (q : Q (.bl (!PySem.W.dataLt (.str y) (.str x))) H) : rCmpA K (fun i j => decide (i ≤ j)) (fun d e => !PySem.W.dataLt e d) (.str x) (.str y) H Q :=
  .inr ⟨.str x, .str y, .str x, .str y, by simp only [PySem.W.alike], (fun e => nomatch e), by simp only [PyData.depth]; decide, q⟩
theorem r_lenZ (h : x.length ≤ sizeLine) (q : Q (.int x.length) H) : rLenA K [V.str x] H Q := ⟨_, x.length, rfl, ⟨h, rfl⟩, q⟩
theorem r_neE {u v : V} {d e : PyData} (h1 : Dp K H u d) (h2 : Dp K H v e) (s1 : SeqAt.shaped d = true) (s2 : SeqAt.shaped e = true) (q : Q (.bl (!PyData.eqv d e)) H) : rNeA K u v H Q := .inr ⟨_, _, h1, h2, s1, s2, q⟩
theorem r_eqE {u v : V} {d e : PyData} (h1 : Dp K H u d) (h2 : Dp K H v e) (s1 : SeqAt.shaped d = true) (s2 : SeqAt.shaped e = true) (q : Q (.bl (PyData.eqv d e)) H) : rEqA K u v H Q := .inr ⟨_, _, h1, h2, s1, s2, q⟩
end
/-! ### texts walked -/
section
variable {σ : St} {H : Hp} {Q : VK} {K : PySem.W.Frag} {tt : TT} {te tl : TE} {vs : List Nat} {R : It → Hp → Prop} {j : Nat}
theorem r_iStr (h : tl σ H fun v H1 => ∃ x, v = .str x ∧ R (Its x) H1) : iStr tl σ H R := h
/-- each sign of a text gives a bool -/
theorem c_strB {z : Str} (f : Nat → Bool) (hz : z.cps.size < 16000000) (hw : ∀ x, wipe ((wipe σ vs).set j (some x)) vs = wipe σ vs)
    (turn : ∀ (c : Nat) H1 (q : VK) (N : Hp → Prop), c ∈ z.cps.toList → Ex H H1 → (∀ H4, Ex H1 H4 → q (.bl (f c)) H4) → tt ((wipe σ vs).set j (some (.str ⟨#[c]⟩))) H1 fun b H4 => if b = true then te ((wipe σ vs).set j (some (.str ⟨#[c]⟩))) H4 q else N H4)
    (done : ∀ L H', H L = none → Ex H H' → H' L = some (.lst ((z.cps.toList.map f).map V.bl)) → Q (.ref L) H') : CQ (gName j) tt te vs σ Q (Its z) H := by
  refine c_fn walk_str (fun i => z.cps.toList[i]?.bind fun c => some (V.bl (f c))) hz (fun _ _ => trivial) (fun i x H1 H2 q N hi e1 y hq hN => ?_) (fun L H' h1 h2 h3 => done L H' h1 h2 ?_)
  · obtain ⟨rfl, c, hc, rfl⟩ := y
    have hc' : z.cps.toList[i]? = some c := by rw [Array.getElem?_toList]; exact hc
    refine ⟨hw _, turn c H2 q N (List.mem_of_getElem? hc') e1 fun H4 e4 => hq _ H4 ?_ e4⟩
    rw [hc']; rfl
  · rw [← Array.length_toList, range_fm] at h3
    rw [h3, List.map_map]
    congr 2
    exact congrFun List.filterMap_eq_map _
/-- a bool of each item's data -/
theorem c_seqD {k : Sk} {a : Addr} {us : List V} {ds : List PyData} (h : k.at K H a us) (hd : DpAll K H us ds) (f : PyData → Bool) (hn : us.length < 16000000) (hw : ∀ x, wipe ((wipe σ vs).set j (some x)) vs = wipe σ vs)
    (turn : ∀ v p H1 (q : VK) (N : Hp → Prop), p ∈ ds → Dp K H1 v p → Ex H H1 → (∀ H4, Ex H1 H4 → q (.bl (f p)) H4) → tt ((wipe σ vs).set j (some v)) H1 fun b H4 => if b = true then te ((wipe σ vs).set j (some v)) H4 q else N H4)
    (done : ∀ L H', H L = none → Ex H H' → H' L = some (.lst ((ds.map f).map V.bl)) → Q (.ref L) H') : sQ K (CQ (gName j) tt te vs σ Q) (.ref a) H := by
  refine s_S h (c_fn walk_S (fun i => ds[i]?.bind fun p => some (V.bl (f p))) hn (fun H' e => k.ex e h) (fun i x H1 H2 q N hi e1 y hq hN => ?_) (fun L H' h1 h2 h3 => done L H' h1 h2 ?_))
  · obtain ⟨rfl, hx⟩ := y
    obtain ⟨p, hp, dp⟩ := DpA.get hd hx
    refine ⟨hw _, turn x p H2 q N (List.mem_of_getElem? hp) (Dp.ex e1 dp) e1 fun H4 e4 => hq _ H4 ?_ e4⟩
    rw [hp]; rfl
  · rw [DpA.length hd, range_fm] at h3
    rw [h3, List.map_map]
    congr 2
    exact congrFun List.filterMap_eq_map _
/-- a bool of each pair of two walks -/
theorem c_zipD {k1 k2 : Sk} {a b : Addr} {us ws : List V} {ds es : List PyData} {l : Nat} (h1 : k1.at K H a us) (h2 : k2.at K H b ws) (d1 : DpAll K H us ds) (d2 : DpAll K H ws es) (f : PyData → PyData → Bool) (hn : us.length < 16000000)
    (hw : ∀ x y, wipe (((wipe σ vs).set j (some x)).set l (some y)) vs = wipe σ vs)
    (turn : ∀ u v p q T H1 (Q1 : VK) (N : Hp → Prop), p ∈ ds → q ∈ es → Dp K H1 u p → Dp K H1 v q → Ex H H1 → H1 T = none → (∀ H4, Ex H1 H4 → Q1 (.bl (f p q)) H4) →
      tt (((wipe σ vs).set j (some u)).set l (some v)) (upd H1 T (.tup [u, v])) fun b H4 => if b = true then te (((wipe σ vs).set j (some u)).set l (some v)) H4 Q1 else N H4)
    (done : ∀ L H', H L = none → Ex H H' → H' L = some (.lst (((ds.zip es).map fun p => f p.1 p.2).map V.bl)) → Q (.ref L) H') : zQ K (CQ (gTup K 2 (gCons (gName j) (gCons (gName l) gNil))) tt te vs σ Q) [.ref a, .ref b] H := by
  have l1 := DpA.length d1
  have l2 := DpA.length d2
  have hz : (ds.zip es).length = min us.length ws.length := by rw [List.length_zip, l1, l2]
  refine z_P h1 h2 (c_fn (walk_P (n := (ds.zip es).length) hz) (fun i => (ds.zip es)[i]?.bind fun z => some (V.bl (f z.1 z.2))) (by omega) (fun H' e => ⟨k1.ex e h1, k2.ex e h2⟩) (fun i x H1 H2 q N hi e1 y hq hN => ?_) (fun L H' h1 h2 h3 => done L H' h1 h2 ?_))
  · obtain ⟨T, u, v, e2, e3, e4, e5, e6⟩ := y
    subst e2 e4
    obtain ⟨p, hp, dp⟩ := DpA.get d1 e5
    obtain ⟨p2, hp2, dp2⟩ := DpA.get d2 e6
    have ez : (ds.zip es)[i]? = some (p, p2) := by
      rw [List.getElem?_zip_eq_some]
      exact ⟨hp, hp2⟩
    exact g_two ⟨hw u v, turn u v p p2 T H1 q N (List.mem_of_getElem? hp) (List.mem_of_getElem? hp2) (Dp.ex e1 dp) (Dp.ex e1 dp2) e1 e3 fun H4 e8 => hq _ H4 (by rw [ez]; rfl) e8⟩
  · rw [range_fm] at h3
    rw [h3, List.map_map]
    congr 2
    exact congrFun List.filterMap_eq_map _
/-- a list of drawn data -/
theorem c_diceD {F : PyData → Prop} (hF : ∀ p, F p → nl p = true) {n N m : Nat} {lo : Int} {d : Addr} (hd : Dice n H d) (hm : m < 16000000) (hw : ∀ x, wipe ((wipe σ vs).set j (some x)) vs = wipe σ vs)
    (turn : ∀ (i : Nat) H1 (q : VK) (M : Hp → Prop), i < m → ExB d H H1 → Dice (n + i * N) H1 d → (∀ v p H4, Dp K H4 v p → F p → ExB d H1 H4 → Dice (n + i * N + N) H4 d → q v H4) →
      tt ((wipe σ vs).set j (some (.int (lo + i)))) H1 fun b H4 => if b = true then te ((wipe σ vs).set j (some (.int (lo + i)))) H4 q else M H4)
    (done : ∀ L H' us ps, H L = none → L ≠ d → ExB d H H' → H' L = some (.lst us) → DpAll K H' us ps → ps.length = m → (∀ p ∈ ps, F p) → Dice (n + m * N) H' d → Q (.ref L) H') : CQ (gName j) tt te vs σ Q (Itr lo m) H := by
  intro L hL
  have ne : L ≠ d := hd.ne hL
  refine lc_it walk_range (fun i H' => ∃ us ps, ExB d H H' ∧ H' L = some (.lst us) ∧ DpAll K H' us ps ∧ ps.length = i ∧ (∀ p ∈ ps, F p) ∧ Dice (n + i * N) H' d) ⟨[], [], ExB.of (Ex.new hL), upd_same, .nil, rfl, (fun x hx => nomatch hx), by rw [Nat.zero_mul]; exact hd.ex (Ex.new hL)⟩ (fun _ _ _ _ => trivial) ?_ ?_
  · rintro i x H1 H2 hi ⟨us, ps, e1, e2, e3, e4, e5, e6⟩ ⟨rfl, rfl⟩
    refine ⟨hw _, turn i H2 _ _ hi e1 e6 fun v p H4 dp fp e7 e8 => ?_⟩
    have hL4 : H4 L = some (.lst us) := e7 _ _ ne e2
    obtain ⟨zs, hz⟩ := e6.lst
    have nps : nlAll ps = true := (nlAll_iff ps).mpr fun p hp => hF p (e5 p hp)
    have all4 : DpAll K H4 us ps := DpA.en hz (EN.b e7) nps e3
    have enL : EN L H4 (upd H4 L (.lst (us ++ [v]))) := fun b o nb hb _ => (upd_ne nb).trans hb
    refine ⟨us, hL4, by rw [DpA.length e3]; exact Nat.lt_trans (by omega : ps.length < 16000000) (by decide), us ++ [v], ps ++ [p], ?_, upd_same, DpA.en hL4 enL (by rw [nlAll_iff]; intro q hq; rcases List.mem_append.mp hq with hq | hq; exact hF q (e5 q hq); rw [List.mem_singleton.mp hq]; exact hF p fp) (DpA.snoc all4 dp), by rw [List.length_append, e4]; rfl, ?_, ?_⟩
    · intro b o hb ho
      have hne : b ≠ L := fun z => by rw [z, hL] at ho; cases ho
      exact (upd_ne hne).trans (e7 _ _ hb (e1 b o hb ho))
    · intro q hq
      rcases List.mem_append.mp hq with hq | hq
      · exact e5 q hq
      · rw [List.mem_singleton.mp hq]; exact fp
    · obtain ⟨x, y, z, h, r1, r2, r3, r4, r5⟩ := e8
      refine ⟨x, y, z, (upd_ne (Ne.symm ne)).trans h, r1, r2, r3, r4, ?_⟩
      rw [Nat.add_mul]; omega
  · rintro H' ⟨us, ps, e1, e2, e3, e4, e5, e6⟩
    exact done L H' us ps hL ne e1 e2 e3 e4 e5 e6
end
/-! ### texts joined, repeated -/
section
variable {X : Cx} {K : PySem.W.Frag}
def rJoin (K : PySem.W.Frag) : V → List V → Hp → VK → Prop := fun x xs H Q => ∃ a p, ∃ ys : List Str, x = .str a ∧ xs = [.ref p] ∧ (SqL K H p (ys.map V.str) ∨ SqT K H p (ys.map V.str)) ∧
      (ys.map (·.length)).sum + ys.length * a.length ≤ 16777216 ∧ Q (.str (Txt.join a ys)) H
theorem k_join {o e : Expr} {to te : TE} {apos pos : Pos} (eK : X.K = K) (ho : PE X o to) (he : PE X e te) (hs : starEach [e] X.env = [(false, eval e X.env)] := by rfl) (hbase : attributeBase o "join" X.env (eval o X.env) = eval o X.env := by rfl) (hline : (apos.endLine == pos.line) = true := by rfl) :
    PE X (.Call (.Attribute o "join" apos) [e] [] pos) (tM1 (rJoin K) to te) := by
  subst eK
  exact pe_join ho he hs hbase hline
theorem r_m1 {r : V → List V → Hp → VK → Prop} {to te : TE} {σ : St} {H : Hp} {Q : VK} (h : to σ H fun x H1 => (∃ a, x = .str a) ∧ te σ H1 fun y H2 => r x [y] H2 Q) : tM1 r to te σ H Q := h
def rMulZ : R2 := fun x y H Q => ∃ (z : Str) (n : Int), x = .str z ∧ y = .int n ∧ 2 ≤ n ∧ n ≤ 1000 ∧ 1 ≤ z.length ∧ z.length ≤ 1000 ∧ Q (.str ⟨(List.replicate n.toNat z.cps).foldl (· ++ ·) #[]⟩) H
theorem op_mulZ : OpR X (binaryOp .Mult) rMulZ := by
  intro pins s σ H x y v u Q I rx ry h
  obtain ⟨z, n, rfl, rfl, h1, h2, h3, h4, q⟩ := h
  obtain ⟨t, rfl⟩ := rx
  obtain ⟨t2, rfl⟩ := ry
  have hb : (z.length : Int) * n ≤ 1000000 := by
    have a1 : (z.length : Int) * n ≤ 1000 * n := Int.mul_le_mul_of_nonneg_right (by omega) (by omega)
    omega
  have hc : z.length * n.toNat ≤ 1000000 := by
    have a1 : z.length * n.toNat ≤ 1000 * n.toNat := Nat.mul_le_mul_right _ h4
    omega
  have big : 1000000 ≤ sizeLine := by decide
  refine PySem.P.mul_str (by rw [decide_eq_false (by omega), decide_eq_false (by omega)]; rfl) (fun _ _ => ?_) (fun _ _ => decide_eq_false (by show ¬ z.length * n.toNat > sizeLine; omega)) ?_
  · refine Int.not_lt.mpr ?_
    rw [Int.le_ediv_iff_mul_le (by omega)]
    omega
  · rw [if_neg (by omega), if_neg (by
      rw [Bool.or_eq_true, beq_iff_eq, beq_iff_eq]
      omega)]
    refine ⟨?_, .str _, H, I.tok _, ⟨_, rfl⟩, q⟩
    exact fits_reps (decide_eq_false (by show ¬ z.length * n.toNat > sizeLine; omega))
end
end PB

/-! PT: keyword calls of defs that know their guards; repr of data; rows of ints compared. -/
namespace PB
open PySem PySem.Spec L2
open PyProof.Rows hiding St
def CalKG (P : Program) (w : World) (K : PySem.W.Frag) (mg : Str → Option Value) (base : Heap) (k : Nat) (x : Str) (ks : List Str) (sp : Sp) (gV : List V → List V) : Prop :=
  ∃ f fd ps g, mg x = some (.ref f) ∧ PySem.W.keepIn K (.ref f) = true ∧ FnG P w K mg base k f fd ps sp ∧ KBn K fd ps 0 ks g (fun _ zs => gV zs)
theorem pe_kw0G {X : Cx} {k j : Nat} {x : Str} {ks : List Str} {sp : Sp} {gV : List V → List V} {E : XK} {p pos : Pos} {kws : List Keyword} {tk : TA} (c : CalKG X.prog X.w X.K X.mg X.base k x ks sp gV) (gd : X.A.guards = some []) (hr : Room j X.A) (hk : k ≤ j) (hx : Passes (L2.CX X.prog X.w) X E) (hkw : PK X kws tk)
    (hg : Gl X x := by rfl) (hall : (backToKw pos (keywordEach kws X.env)).all (·.1.isSome) = true := by rfl) (hks : (backToKw pos (keywordEach kws X.env)).filterMap (·.1) = ks := by rfl) (hdb : (x == ("__debug__" : Str)) = false := by decide)
    (hpl : ((backTo pos (starEach [] X.env)).any (·.1) || (backToKw pos (keywordEach kws X.env)).any (·.1.isNone)) = false := by rfl) : PE X (.Call (.Name x p) [] kws pos) (fun σ H Q => tk σ H fun zs H1 => zs.length = ks.length ∧ sp (gV zs) H1 Q E) := by
  obtain ⟨f, fd, ps, g, h1, h2, F, b⟩ := c
  refine ⟨fun pins s σ H Q I h => wpAny_Call_Name_kw (ld_glob I hg h1 ?_ hdb)⟩
  refine PySem.W.callWith_KW0 (h₀ := X.base) I.ok.mod.kin h2 hall (thn (hkw.run pos pins s σ H _ I h) fun ws s2 ⟨zs, H2, I2, rz, l2, q2⟩ => ⟨I2.kIn, ?_⟩) hpl
  rw [hks]
  refine wpAny_call (codeAny_mono (F.run X.A X.stack s2 H2 ⟨[], ks.zip ws⟩ (g [] ws) (gV zs) Q E gd (hr.mono hk) I2.env0 (b.to s2 [] ws I2.kIn rfl (rz.length.symm.trans l2)) (b.rel .nil rz) q2) fun z s' hq => ?_)
  match z, hq with
  | .error er, hq => exact hx pins σ H2 s2 er s' I2 hq
  | .ok (.ret u), hq => exact I2.after hq
  | .ok .next, hq => exact hq.elim
  | .ok .brk, hq => exact hq.elim
  | .ok .cont, hq => exact hq.elim
section
variable {P : Program} {w : World} {fa : List He.Fa} {fn : List He.DefD} {K : PySem.W.Frag} {mg : Str → Option Value} {base : Heap}
theorem Ct.calKG (C : Ct fa fn K mg base) (i j : Nat) {x : Str} {a : Arguments} {b : List Stmt} {sc : Scope} (hd : fn[i]? = some ⟨(x, none), x, x, a, b, sc, [], []⟩) (hj : fa[j]? = some (.glo x)) {N ps ks : List Str} {k : Nat} {sp : Sp} {g : List Value → List Value} {gV : List V → List V} (S : FnScope N ps sc)
    (hrel : ∀ (zs : List V) (ws : List Value), Vals zs ws → Vals (gV zs) (g ws))
    (hb : ∀ (kV doc pm : Value) (an : Option Addr) (cdv ct : Value) (ws : List Value), ws.length = ks.length → bindArgs (PySem.W.fnOf x x a b sc .none kV doc pm an cdv ct) ⟨[], ks.zip ws⟩ = pure (ps.zip (g ws)))
    (len : ∀ vs H Q E, sp vs H Q E → vs.length = ps.length)
    (hbody : ∀ (f : Addr) (cdv : Value) (A : Around) (outer : List Env) (s : Shared) (H : Hp) (vs : List V) (Q : VK) (E : XK), (A.deeper (envOfC x sc s.heap.objs.size f cdv)).guards = some [] → Room k (A.deeper (envOfC x sc s.heap.objs.size f cdv)) → sp vs H Q E →
      ∃ t, PSs (cxOf (L2.CX P w) P w K mg base N x sc f cdv A outer s H E) b t ∧ t { nx := fun _ H' => Q .non H', rt := Q } (start N vs) H) : CalKG P w K mg base (k + 1) x ks sp gV := by
  obtain ⟨fd, F⟩ := C.says.def_ i hd
  have F0 := F
  obtain ⟨oc, od, dV, kV, doc, pm, an, cdv, ct, osl, rfl, lk, hcd, hD, hK⟩ := F.ex
  have dn : dV = .none := by
    rcases hD with ⟨_, e⟩ | ⟨e, _⟩
    · exact e
    · exact absurd rfl e
  subst dn
  refine ⟨_, _, ps, fun _ ws => g ws, He.glo_ok C.kin C.glob (C.says.fact j hj), F.kp, fnG_of F0 S len fun cdv A outer s H vs Q E hg hr h => hbody _ cdv A outer s H vs Q E hg hr h, ⟨fun s us ws _ l1 l2 => ?_, fun _ r => hrel _ _ r⟩⟩
  obtain rfl := List.length_eq_zero_iff.mp l1
  exact .of_eq (hb kV doc pm an cdv ct ws l2)
end
/-- what can be shown -/
structure Shw (p : PyData) : Prop where
  s1 : p.showable = true
  s2 : p.hasDict = false
  s3 : p.shown.length ≤ sizeLine
  s4 : p.depth ≤ 60
theorem r_reprD {K : PySem.W.Frag} {H : Hp} {v : V} {p : PyData} {xs : List PyData} {Q : VK} (h : Dp K H v p) (e : p = .tuple xs) (s : Shw p) (q : Q (.str p.shown) H) : rRepr K [v] H Q := by
  subst e
  cases h with
  | tup h1 h2 => exact ⟨_, _, rfl, .tup h1 h2, s.s1, s.s2, s.s3, s.s4, q⟩
section
variable {K : PySem.W.Frag} {H : Hp} {Q : VK} {a b : Addr} {ns ms : List Int} {vs ws : List V} {rs ss : List (List Int)}
theorem r_gtTT (h1 : SqT K H a (ns.map V.int)) (h2 : SqT K H b (ms.map V.int)) (q : Q (.bl (decide (ms < ns))) H) : rCmpA K (fun i j => decide (j < i)) (fun d e => PySem.W.dataLt e d) (.ref a) (.ref b) H Q :=
  .inr ⟨_, _, dp_t h1, dp_t h2, by simp only [PySem.W.alike]; exact ali_I ns ms, (fun e => nomatch e), by rw [dep_t, dep_t]; decide, by rw [← lt_T] at q; exact q⟩
theorem canLay_R (rs : List (List Int)) : PyData.canLay0 (.list (rs.map fun r => .tuple (dI r))) = true := by
  simp only [PyData.canLay0]
  exact lay_R rs
theorem r_neRR (h1 : SqL K H a vs) (h2 : SqL K H b ws) (r1 : Rws K H vs rs) (r2 : Rws K H ws rs) (q : Q (.bl false) H) : rNeA K (.ref a) (.ref b) H Q :=
  .inr ⟨_, _, .lst h1 r1.dp, .lst h2 r2.dp, sh_R, sh_R, by rw [eqv_refl _ (canLay_R rs)]; exact q⟩
end
/-- an item by any index -/
theorem r_ixM {K : PySem.W.Frag} {H : Hp} {Q : VK} {a : Addr} {xs : List V} {k : Sk} {i : Int} {v : V} (h : k.at K H a xs) (e : atI xs i = some v) (q : Q v H) : rIxA K (.ref a) (.int i) H Q := by
  cases k with
  | l => exact .inl ⟨a, xs, i, v, rfl, rfl, h, e, q⟩
  | t => exact .inr (.inl ⟨a, xs, i, v, rfl, rfl, h, e, q⟩)
theorem r_cut {t u : TS} {D : Ends} {σ : St} {H : Hp} (Mid : St → Hp → Prop) (h : t { D with nx := Mid } σ H) (k : ∀ σ' H', Mid σ' H' → u D σ' H') : C8.tCut t u D σ H := ⟨Mid, h, k⟩
theorem cut_m1 {xs : List V} : cutV xs none (some (-1)) = xs.take (xs.length - 1) := by
  unfold cutV
  rw [HT.sIx_none, Nat.sub_zero, List.drop_zero]
  congr 1
  show (if (-1 : Int) < 0 then ((-1 : Int) + (xs.length : Int)).toNat else min (-1 : Int).toNat xs.length) = _
  rw [if_pos (by decide)]
  omega
theorem cut_from {xs : List V} {i : Nat} : cutV xs (some (i : Int)) none = xs.drop i := cut_hi
/-- a list of rows, one of each item -/
theorem c_seqR {σ : St} {H : Hp} {Q : VK} {K : PySem.W.Frag} {tt : TT} {te : TE} {vs : List Nat} {j : Nat} {k : Sk} {a : Addr} {us : List V} (h : k.at K H a us) (f : Nat → List Int) (hn : us.length < 16000000) (hw : ∀ x, wipe ((wipe σ vs).set j (some x)) vs = wipe σ vs)
    (turn : ∀ (i : Nat) v H1 (q : VK) (N : Hp → Prop), us[i]? = some v → Ex H H1 → (∀ w H4, Ex H1 H4 → Row K H4 w (f i) → q w H4) → tt ((wipe σ vs).set j (some v)) H1 fun b H4 => if b = true then te ((wipe σ vs).set j (some v)) H4 q else N H4)
    (done : ∀ L H' ws, H L = none → Ex H H' → H' L = some (.lst ws) → Rws K H' ws ((List.range us.length).map f) → Q (.ref L) H') : sQ K (CQ (gName j) tt te vs σ Q) (.ref a) H := by
  refine s_S h (c_it walk_S hn (fun H' e => k.ex e h) (fun i acc H' => Rws K H' acc ((List.range i).map f)) (fun _ _ => .nil) (fun L i acc H1 u u' hL _ p => p.put hL) ?_ ?_)
  · rintro i x acc H1 H2 q N hi e1 p ⟨rfl, hx⟩ hq hN
    refine ⟨hw x, turn i x H2 q N hx e1 fun w H4 e4 row => hq w H4 e4 ?_⟩
    rw [List.range_succ, List.map_append]
    exact (p.ex e4).snoc row
  · intro L acc H' h1 h2 h3 _ h5
    exact done L H' acc h1 h2 h3 h5
end PB

/-! PW: own classes: methods, instances made, properties, fields, == and != by an own __eq__. -/
namespace PB
open PySem PySem.Spec L2
open PyProof.Rows hiding St
/-- the method m of C keeps this promise -/
def MetE (P : Program) (w : World) (K : PySem.W.Frag) (mg : Str → Option Value) (base : Heap) (k : Nat) (C : Addr) (m : Str) (ps : List Str) (sp : Sp) : Prop :=
  Cls K C ∧ ∃ g fd, Meth K C m g ∧ FnOk P w K mg base (L2.CX P w) k g fd ps sp ∧ Binds K fd ps []
/-- by a keyword alone (behind the object) -/
def MetK (P : Program) (w : World) (K : PySem.W.Frag) (mg : Str → Option Value) (base : Heap) (k : Nat) (C : Addr) (m : Str) (ks : List Str) (sp : Sp) (gV : List V → List V → List V) : Prop :=
  Cls K C ∧ ∃ f fd ps g, Meth K C m f ∧ FnOk P w K mg base (L2.CX P w) k f fd ps sp ∧ KBn K fd ps 1 ks g gV
/-- C made -/
def MakE (P : Program) (w : World) (K : PySem.W.Frag) (mg : Str → Option Value) (base : Heap) (k : Nat) (x : Str) (C : Addr) (ps : List Str) (sp : Sp) : Prop :=
  mg x = some (.ref C) ∧ ∃ f fd, Mk K C f ∧ FnOk P w K mg base (L2.CX P w) k f fd ps sp ∧ Binds K fd ps []
def MakK (P : Program) (w : World) (K : PySem.W.Frag) (mg : Str → Option Value) (base : Heap) (k : Nat) (x : Str) (C : Addr) (ks : List Str) (sp : Sp) (gV : List V → List V → List V) : Prop :=
  mg x = some (.ref C) ∧ ∃ f fd ps g, Mk K C f ∧ FnOk P w K mg base (L2.CX P w) k f fd ps sp ∧ KBn K fd ps 1 ks g gV
def PrpE (P : Program) (w : World) (K : PySem.W.Frag) (mg : Str → Option Value) (base : Heap) (k : Nat) (C : Addr) (m : Str) (ps : List Str) (sp : Sp) : Prop :=
  Cls K C ∧ ∃ p g fd, PropOf K C m p g ∧ FnOk P w K mg base (L2.CX P w) k g fd ps sp ∧ Binds K fd ps []
section
variable {X : Cx} {k j : Nat} {C : Addr} {m x : Str} {ps ks : List Str} {sp : Sp} {gV : List V → List V → List V} {E : XK} {o e : Expr} {es : List Expr} {to : TE} {t tk : TA} {apos pos p : Pos} {kws : List Keyword}
theorem pe_me {pl : Sem Bool} (c : MetE X.prog X.w X.K X.mg X.base k C m ps sp) (hr : Room j X.A) (hk : k ≤ j) (hx : Passes (L2.CX X.prog X.w) X E) (ho : PE X o to) (ha : PA X (e :: es) t)
    (hst : starEach (e :: es) X.env = (false, eval e X.env) :: starEach es X.env := by rfl) (hpl : (backTo pos (starEach es X.env)).any (·.1) = false := by rfl)
    (ht : eval (.Call (.Attribute o m apos) (e :: es) [] pos) X.env = (do
      let ov ← eval o X.env
      standAt apos.atName
      let (f, first) ← holding [ov] (getMethod ov m pl)
      callWith pos f first (backTo pos (starEach (e :: es) X.env)) (backToKw pos (keywordEach [] X.env))) := by rfl) : PE X (.Call (.Attribute o m apos) (e :: es) [] pos) (tMeth C m sp [] E to t) := by
  obtain ⟨cl, g, fd, M, F, b⟩ := c
  exact pe_meth ho cl M F (hr.mono hk) b .nil hx ha hst hpl ht
theorem pe_me0 {pl : Sem Bool} (c : MetE X.prog X.w X.K X.mg X.base k C m ps sp) (hr : Room j X.A) (hk : k ≤ j) (hx : Passes (L2.CX X.prog X.w) X E) (ho : PE X o to)
    (ht : eval (.Call (.Attribute o m apos) [] [] pos) X.env = (do
      let ov ← eval o X.env
      standAt apos.atName
      let (f, first) ← holding [ov] (getMethod ov m pl)
      callWith pos f first (backTo pos (starEach [] X.env)) (backToKw pos (keywordEach [] X.env))) := by rfl) : PE X (.Call (.Attribute o m apos) [] [] pos) (tMeth C m sp [] E to tNil) := by
  obtain ⟨cl, g, fd, M, F, b⟩ := c
  exact pe_meth0 ho cl M F (hr.mono hk) b .nil hx ht
/-- o.m(k = v, ..): the object, the keywords' values -/
def tMethK (C : Addr) (m : Str) (n : Nat) (sp : Sp) (gV : List V → List V → List V) (E : XK) (to : TE) (tk : TA) : TE := fun σ H Q => to σ H fun x H1 => ∃ a dx fs, x = .ref a ∧ H1 a = some (.ins C dx fs) ∧ fs.lookup m = none ∧ tk σ H1 fun zs H2 => zs.length = n ∧ sp (gV [x] zs) H2 Q E
theorem pe_meK {pl : Sem Bool} (c : MetK X.prog X.w X.K X.mg X.base k C m ks sp gV) (hr : Room j X.A) (hk : k ≤ j) (hx : Passes (L2.CX X.prog X.w) X E) (ho : PE X o to) (hkw : PK X kws tk)
    (hall : (backToKw pos (keywordEach kws X.env)).all (·.1.isSome) = true := by rfl) (hks : (backToKw pos (keywordEach kws X.env)).filterMap (·.1) = ks := by rfl)
    (hpl : ((backTo pos (starEach [] X.env)).any (·.1) || (backToKw pos (keywordEach kws X.env)).any (·.1.isNone)) = false := by rfl)
    (ht : eval (.Call (.Attribute o m apos) [] kws pos) X.env = (do
      let ov ← eval o X.env
      standAt apos.atName
      let (f, first) ← holding [ov] (getMethod ov m pl)
      callWith pos f first (backTo pos (starEach [] X.env)) (backToKw pos (keywordEach kws X.env))) := by rfl) : PE X (.Call (.Attribute o m apos) [] kws pos) (tMethK C m ks.length sp gV E to tk) := by
  obtain ⟨cl, f, fd, ps, g, M, F, b⟩ := c
  refine ⟨fun pins s σ H Q I h => ?_⟩
  refine PySem.W.methodCall_KW (pl := pl) (thn (ho.run pins s σ H _ I h) fun u s1 ⟨x, H1, I1, rx, a, dx, fs, ex, ea, l, q⟩ => ?_) ht
  subst ex
  obtain rfl : u = Value.ref a := rx
  refine getmeth_ok I1 ea cl M l ?_
  refine PySem.W.callWith_KW0 (first := [.ref a]) (h₀ := X.base) I.ok.mod.kin M.kp hall (thn (hkw.run pos pins s1 σ H1 _ I1 q) fun ws s2 ⟨zs, H2, I2, rz, l2, q2⟩ => ⟨I2.kIn, ?_⟩) hpl
  rw [hks]
  exact run_fnN (us := [.ref a]) (vs := [.ref a]) F (hr.mono hk) b hx I2 (.cons rfl .nil) rz rfl l2 q2
theorem pe_mkE (c : MakE X.prog X.w X.K X.mg X.base k x C ps sp) (hr : Room j X.A) (hk : k + 1 ≤ j) (hx : Passes (L2.CX X.prog X.w) X E) (ha : PA X (e :: es) t) (hg : Gl X x := by rfl)
    (hdb : (x == ("__debug__" : Str)) = false := by decide) (he : starEach (e :: es) X.env = (false, eval e X.env) :: starEach es X.env := by rfl) (hpl : (backTo pos (starEach es X.env)).any (·.1) = false := by rfl) :
    PE X (.Call (.Name x p) (e :: es) [] pos) (tMake C sp [] E t) := by
  obtain ⟨hm, f, fd, M, F, b⟩ := c
  exact pe_make M F (hr.mono hk) hg hm b .nil hx ha hdb he hpl
theorem pe_mkK (c : MakK X.prog X.w X.K X.mg X.base k x C ks sp gV) (hr : Room j X.A) (hk : k + 1 ≤ j) (hx : Passes (L2.CX X.prog X.w) X E) (hkw : PK X kws tk) (hg : Gl X x := by rfl)
    (hall : (backToKw pos (keywordEach kws X.env)).all (·.1.isSome) = true := by rfl) (hks : (backToKw pos (keywordEach kws X.env)).filterMap (·.1) = ks := by rfl) (hdb : (x == ("__debug__" : Str)) = false := by decide)
    (hpl : ((backTo pos (starEach [] X.env)).any (·.1) || (backToKw pos (keywordEach kws X.env)).any (·.1.isNone)) = false := by rfl) : PE X (.Call (.Name x p) [] kws pos) (tMakeK C 0 ks.length sp gV E tNil tk) := by
  obtain ⟨hm, f, fd, ps, g, M, F, b⟩ := c
  exact pe_makeK0 M F (hr.mono hk) hg hm b hx hkw hall hks hdb hpl
theorem pe_pr (c : PrpE X.prog X.w X.K X.mg X.base k C m ps sp) (hr : Room j X.A) (hk : k + 1 ≤ j) (hx : Passes (L2.CX X.prog X.w) X.nox E) (ho : PE X e to) (hab : attributeBase e m X.env (eval e X.env) = eval e X.env := by rfl) : PE X (.Attribute e m pos) (tProp C sp [] E to) := by
  obtain ⟨cl, q, g, fd, M, F, b⟩ := c
  exact pe_prop ho cl M F (hr.mono hk) b .nil hx hab
end
section
variable {X : Cx} {K : PySem.W.Frag} {e o value : Expr} {f : Str} {pos pos' tpos : Pos} {ta tv : TE}
theorem k_fld (eK : X.K = K) (he : PE X e ta) (hb : attributeBase e f X.env (eval e X.env) = eval e X.env := by rfl) : PE X (.Attribute e f pos) (tFld K ta f) := by
  subst eK
  exact pe_fld he hb
theorem k_sfld (eK : X.K = K) (ha : PE X o ta) (hv : PE X value tv) (hs : swapsWith value (some (.Attribute o f pos')) pos.line X.env = pure false := by rfl) : PS X (.Assign [.Attribute o f pos'] value pos) (sFld K ta tv f) := by
  subst eK
  exact ps_fld ha hv hs
theorem k_fldaug {op : Operator} {rd : V → V → Hp → VK → Prop} (eK : X.K = K) (ha : PE X o ta) (hv : PE X value tv) (hop : InOp X op rd) : PS X (.AugAssign (.Attribute o f tpos) op value pos) (sFldAug K ta tv rd f) := by
  subst eK
  exact ps_fldaug ha hv hop
end
/-! readings -/
section
variable {K : PySem.W.Frag} {σ : St} {H : Hp} {Q : VK} {D : Ends} {ta to tv : TE} {t tk : TA} {a C dx : Addr} {fs : List (Str × V)} {f m : Str} {v : V} {sp : Sp} {dvs : List V} {E : XK} {n : Nat} {gV : List V → List V → List V}
theorem r_fldS (h : ta σ H fun x H1 => ∃ a C dx fs v, x = .ref a ∧ H1 a = some (.ins C dx fs) ∧ Cls K C ∧ NoAttr K C f ∧ fs.lookup f = some v ∧ Q v H1) : tFld K ta f σ H Q := h
theorem r_sfld (h : tv σ H fun y H1 => ta σ H1 fun x H2 => ∃ a C dx fs, x = .ref a ∧ H2 a = some (.ins C dx fs) ∧ Cls K C ∧ NoAttr K C f ∧ fs.length < 1000 ∧ D.nx σ (upd H2 a (.ins C dx (putF f y fs)))) : sFld K ta tv f D σ H := h
theorem r_fldaug {rd : V → V → Hp → VK → Prop} (h : ta σ H fun x H1 => ∃ a C dx fs v, x = .ref a ∧ H1 a = some (.ins C dx fs) ∧ Cls K C ∧ NoAttr K C f ∧ fs.lookup f = some v ∧
  tv σ H1 fun y H2 => rd v y H2 fun z H3 => ∃ dx' fs', H3 a = some (.ins C dx' fs') ∧ fs'.length < 1000 ∧ D.nx σ (upd H3 a (.ins C dx' (putF f z fs')))) : sFldAug K ta tv rd f D σ H := h
theorem r_meth (h : to σ H fun x H1 => ∃ a dx fs, x = .ref a ∧ H1 a = some (.ins C dx fs) ∧ fs.lookup m = none ∧ t σ H1 fun vs H2 => sp (x :: vs) H2 Q E) : tMeth C m sp [] E to t σ H Q := by
  unfold tMeth
  simpa only [List.append_nil] using h
theorem r_methK (h : to σ H fun x H1 => ∃ a dx fs, x = .ref a ∧ H1 a = some (.ins C dx fs) ∧ fs.lookup m = none ∧ tk σ H1 fun zs H2 => zs.length = n ∧ sp (gV [x] zs) H2 Q E) : tMethK C m n sp gV E to tk σ H Q := h
theorem r_make (h : t σ H fun vs H1 => ∀ x dx, H1 x = none → H1 dx = none → dx ≠ x → sp (.ref x :: vs) (upd (upd H1 dx (.own x)) x (.ins C dx [])) (fun v H2 => v = .non ∧ Q (.ref x) H2) E) : tMake C sp [] E t σ H Q := by
  unfold tMake
  simpa only [List.append_nil] using h
theorem r_makeK (h : t σ H fun vs H1 => tk σ H1 fun zs H2 => vs.length = 0 ∧ zs.length = n ∧ ∀ x dx, H2 x = none → H2 dx = none → dx ≠ x → sp (gV (.ref x :: vs) zs) (upd (upd H2 dx (.own x)) x (.ins C dx [])) (fun v H3 => v = .non ∧ Q (.ref x) H3) E) : tMakeK C 0 n sp gV E t tk σ H Q := h
theorem r_prop (h : to σ H fun x H1 => ∃ a dx fs, x = .ref a ∧ H1 a = some (.ins C dx fs) ∧ sp [.ref a] H1 Q E) : tProp C sp [] E to σ H Q := h
end
/-! ### what the top has left -/
section
variable {P : Program} {w : World} {fa : List He.Fa} {fn : List He.DefD} {K : PySem.W.Frag} {mg : Str → Option Value} {base : Heap}
theorem Ct.met (C : Ct fa fn K mg base) (i j c : Nat) {x m qual : Str} {a : Arguments} {b : List Stmt} {sc : Scope} (hd : fn[i]? = some ⟨(x, some m), m, qual, a, b, sc, [], []⟩) (hj : fa[j]? = some (.meth x m)) (hc : fa[c]? = some (.cls x)) {N ps : List Str} {k : Nat} {sp : Sp} (S : FnScope N ps sc)
    (hb : ∀ (kV doc pm : Value) (an : Option Addr) (cdv ct : Value) (us : List Value), us.length = ps.length → bindArgs (PySem.W.fnOf m qual a b sc .none kV doc pm an cdv ct) ⟨us, []⟩ = pure (ps.zip us))
    (len : ∀ vs H Q E, sp vs H Q E → vs.length = ps.length)
    (hbody : ∀ (f : Addr) (cdv : Value) (A : Around) (outer : List Env) (s : Shared) (H : Hp) (vs : List V) (Q : VK) (E : XK), Room k (A.deeper (envOfC qual sc s.heap.objs.size f cdv)) → sp vs H Q E →
      ∃ t, PSs (cxOf (L2.CX P w) P w K mg base N qual sc f cdv A outer s H E) b t ∧ t { nx := fun _ H' => Q .non H', rt := Q } (start N vs) H) : MetE P w K mg base (k + 1) (He.ga K x) m ps sp := by
  obtain ⟨fd, F⟩ := C.says.def_ i hd
  exact ⟨He.cls_ok (C.says.fact c hc), _, fd, He.meth_ok (C.says.fact j hj), FunD.ok F S len fun cdv A outer s H vs Q E hr h => hbody _ cdv A outer s H vs Q E hr h, FunD.bindsN F hb⟩
theorem Ct.mak (C : Ct fa fn K mg base) (i j g : Nat) {x qual : Str} {a : Arguments} {b : List Stmt} {sc : Scope} (hd : fn[i]? = some ⟨(x, some "__init__"), "__init__", qual, a, b, sc, [], []⟩) (hj : fa[j]? = some (.mkr x)) (hg : fa[g]? = some (.glo x)) {N ps : List Str} {k : Nat} {sp : Sp} (S : FnScope N ps sc)
    (hb : ∀ (kV doc pm : Value) (an : Option Addr) (cdv ct : Value) (us : List Value), us.length = ps.length → bindArgs (PySem.W.fnOf "__init__" qual a b sc .none kV doc pm an cdv ct) ⟨us, []⟩ = pure (ps.zip us))
    (len : ∀ vs H Q E, sp vs H Q E → vs.length = ps.length)
    (hbody : ∀ (f : Addr) (cdv : Value) (A : Around) (outer : List Env) (s : Shared) (H : Hp) (vs : List V) (Q : VK) (E : XK), Room k (A.deeper (envOfC qual sc s.heap.objs.size f cdv)) → sp vs H Q E →
      ∃ t, PSs (cxOf (L2.CX P w) P w K mg base N qual sc f cdv A outer s H E) b t ∧ t { nx := fun _ H' => Q .non H', rt := Q } (start N vs) H) : MakE P w K mg base (k + 1) x (He.ga K x) ps sp := by
  obtain ⟨fd, F⟩ := C.says.def_ i hd
  exact ⟨He.glo_ok C.kin C.glob (C.says.fact g hg), _, fd, He.mkr_ok (C.says.fact j hj), FunD.ok F S len fun cdv A outer s H vs Q E hr h => hbody _ cdv A outer s H vs Q E hr h, FunD.bindsN F hb⟩
end
end PB

/-! PQ: a head's facts with the getters of properties; == and != by an own __eq__. -/
namespace PB
open PySem PySem.Spec L2
open PyProof.Rows hiding St
structure PrpD where
  x : Str
  m : Str
  params : Arguments
  body : List Stmt
  scope : Scope
def prpO (K : PySem.W.Frag) (x m : Str) : Addr := He.ma K (He.ga K x) m
def prpA (K : PySem.W.Frag) (x m : Str) : Addr := match PySem.W.recIn K (prpO K x m) "property" with
  | some (.ref g :: _) => g
  | _ => 0
def prpW (K : PySem.W.Frag) (d : PrpD) : He.FnV := match K.lookup (prpA K d.x d.m) with
  | some ⟨_, _, .func fd, _⟩ => some (fd.name, fd.qualname, fd.params, fd.body, fd.scope, fd.globals, fd.closure, fd.defaults, fd.builtins)
  | _ => none
def PrpD.val (d : PrpD) : He.FnV := some (d.m, d.x ++ "." ++ d.m, d.params, .stmts d.body, d.scope, mainGlobals, [], .none, builtinsNs)
/-- all that is asked of K for such a property -/
def prpB (K : PySem.W.Frag) (d : PrpD) : Bool :=
  eqS (PySem.W.findIn K (.ref (clsA K d.x)) d.m) (some (some (.ref (prpO K d.x d.m)))) && (eqS (PySem.W.specialIn K (.ref (prpO K d.x d.m)) "__get__") (some (some (.builtin "property.__get__"))) && (decide (PySem.W.takesIn K (.ref (prpO K d.x d.m)) = some true) &&
  ((match PySem.W.recIn K (prpO K d.x d.m) "property" with
    | some (.ref _ :: _) => true
    | _ => false) && (PySem.W.keepIn K (.ref (prpA K d.x d.m)) && (match K.lookup (prpA K d.x d.m) with
    | some ⟨_, _, .func fd, _⟩ => PySem.W.codeIn K fd.code (d.x ++ "." ++ d.m)
    | _ => false)))))
theorem prp_of {K : PySem.W.Frag} {d : PrpD} (e : prpW K d = d.val) (h : prpB K d = true) : PropOf K (clsA K d.x) d.m (prpO K d.x d.m) (prpA K d.x d.m) ∧ ∃ fd, FunD K d.m (d.x ++ "." ++ d.m) d.params d.body d.scope [] [] (prpA K d.x d.m) fd := by
  unfold prpB at h
  simp only [Bool.and_eq_true, eqS, decide_eq_true_eq] at h
  obtain ⟨h1, h2, h3, h4, h5, h6⟩ := h
  refine ⟨⟨h1, h2, h3, ?_⟩, ?_⟩
  · split at h4
    · rename_i g rest hr
      refine ⟨rest, ?_⟩
      rw [hr]
      unfold prpA
      rw [hr]
    · cases h4
  · unfold prpW at e
    split at e
    · rename_i oc od fd osl lk
      rw [lk] at h6
      obtain ⟨n1, n2, n3, n4, n5, n6, n7, n8, n9, n10, n11, n12, n13, n14, n15⟩ := fd
      unfold PrpD.val at e
      simp only [Option.some.injEq, Prod.mk.injEq] at e
      obtain ⟨e1, e2, e3, e4, e5, e6, e7, e8, e9⟩ := e
      subst e1 e2 e3 e4 e5 e6 e7 e8 e9
      exact ⟨_, ⟨_, _, _, _, _, _, _, _, _, _, rfl, lk, h6, .inl ⟨rfl, rfl⟩, .inl rfl⟩, h5⟩
    · cases e
/-! ### the Hook -/
abbrev AlJ : Type := AlI × List He.FnV
def obsJ (n : Nat) (fa : List He.Fa) (fn : List He.DefD) (ts : List He.Tab) (tf : List He.Defn) (is : List IniD) (ps : List PrpD) (ex : PySem.W.Frag → Bool) (g : Addr → Option Obj) : AlJ := (obsI n fa fn ts tf is ex g, ps.map fun d => prpW (He.frT g (asI g n)) d)
def valJ (fn : List He.DefD) (ts : List He.Tab) (is : List IniD) (ps : List PrpD) (w : World) : AlJ := (valI fn ts is w, ps.map PrpD.val)
structure SaysJ (fa : List He.Fa) (fn : List He.DefD) (ts : List He.Tab) (tf : List He.Defn) (is : List IniD) (ps : List PrpD) (ex : PySem.W.Frag → Bool) (w : World) (h : Heap) (K : PySem.W.Frag) : Prop where
  i : SaysI fa fn ts tf is ex w h K
  prp : (ps.map fun d => prpW K d) = ps.map PrpD.val
def hookJ (n : Nat) (fa : List He.Fa) (fn : List He.DefD) (ts : List He.Tab) (tf : List He.Defn) (is : List IniD) (ps : List PrpD) (ex : PySem.W.Frag → Bool) : PySem.W.Hook where
  α := AlJ
  obs := fun s => obsJ n fa fn ts tf is ps ex s.heap.get?
  val := fun w => valJ fn ts is ps w
  says := fun w h => ∃ K : PySem.W.Frag, K.In h ∧ SaysJ fa fn ts tf is ps ex w h K
  of := fun _ _ e => ⟨_, He.frT_in, ⟨saysI_of (congrArg (fun z : AlJ => z.1) e), congrArg (fun z : AlJ => z.2) e⟩⟩
  keeps := fun _ _ _ ⟨K, hK, ⟨c, d⟩⟩ k => ⟨K, PySem.W.Frag.In.keeps hK k, ⟨⟨⟨c.x.t, c.x.more, c.x.hd, c.x.out, fun p hp => k _ _ (c.x.empty p hp)⟩, c.ini⟩, d⟩⟩
theorem obsJ_eq {n : Nat} {fa : List He.Fa} {fn : List He.DefD} {ts : List He.Tab} {tf : List He.Defn} {is : List IniD} {ps : List PrpD} {ex : PySem.W.Frag → Bool} {g : Addr → Option Obj} {s : Shared} (h : ∀ a, g a = s.heap.get? a) : obsJ n fa fn ts tf is ps ex g = (hookJ n fa fn ts tf is ps ex).obs s := by
  have e : g = s.heap.get? := funext h
  rw [e]; rfl
theorem SaysJ.prpF {fa : List He.Fa} {fn : List He.DefD} {ts : List He.Tab} {tf : List He.Defn} {is : List IniD} {ps : List PrpD} {ex : PySem.W.Frag → Bool} {w : World} {h : Heap} {K : PySem.W.Frag} (c : SaysJ fa fn ts tf is ps ex w h K) (hex : ∀ K d, ex K = true → d ∈ ps → prpB K d = true) (i : Nat) {d : PrpD} (hd : ps[i]? = some d := by rfl) :
    PropOf K (clsA K d.x) d.m (prpO K d.x d.m) (prpA K d.x d.m) ∧ ∃ fd, FunD K d.m (d.x ++ "." ++ d.m) d.params d.body d.scope [] [] (prpA K d.x d.m) fd := by
  have e2 : (ps.map fun d => prpW K d)[i]? = (ps.map PrpD.val)[i]? := by rw [c.prp]
  rw [List.getElem?_map, List.getElem?_map, hd] at e2
  exact prp_of (Option.some.inj e2) (hex K d c.i.x.more (List.mem_of_getElem? hd))
/-! ### == and != by an own __eq__ -/
section
open PySem.W PySem.Calls
variable {prog : Program} {w : World} {A : Around} {E : Value → Shared → Prop} {s : Shared} {K : PySem.W.Frag} {x C f : Addr} {ox : Obj} {od : Option Obj} {b tb : Value}
theorem ifBound_B {M : Model} {name : Str} {id : String} {args : List Value} {Q : Option Value → Shared → Prop} (X : K.In s.heap) (I : InstAt s.heap x ox C od) (hs : findIn K (.ref C) name = some (some (.builtin id)))
    (hb : ∀ self, bindSpecial (.builtin id) self = pure (.builtin id, [self])) (h : wpAny M A (call (.builtin id) (.ref x :: args)) (fun v => Q (some v)) E s) : wpAny M A (callSpecialIfBound? (.ref x) name args) Q E s := by
  simp only [callSpecialIfBound?, bindSpecialIfBound?]
  refine wpAny_holding (wpAny_bind (wpAny_bind (wpAny_bind (I.type.here ((looks_findIn X hs).here ?_)))))
  refine wpAny_bind (wpAny_askSetting (wpAny_ite ?_))
  have fin : wpAny M A (call (.builtin id) ([.ref x] ++ args) >>= fun v => pure (some v)) Q E s := wpAny_bind (wpAny_mono h (fun v s' h' => wpAny_pure h') fun _ _ h' => h')
  split
  · exact wpAny_bind ((Looks.of_pure (hb _)).here (wpAny_pure (by exact fin)))
  · exact wpAny_tryCatch (wpAny_bind ((Looks.of_pure (hb _)).here (wpAny_pure (by exact fin))))
theorem obj_ne {Q : Value → Shared → Prop} (hu : A.in1.units < cLine) (X : K.In s.heap) (I : InstAt s.heap x ox C od) (hm : mroIn K C (.type "object") = some true) (he : findIn K (.ref C) "__eq__" = some (some (.ref f))) (hf : isFn K (.ref f) = true)
    (h : wpAny (model prog w) A.in1 (call (.ref f) [.ref x, b]) (fun v s' => ∃ r, v = .bool r ∧ Q (.bool (!r)) s') E s) : wpAny (model prog w) A (call (.builtin "object.__ne__") [.ref x, b]) Q E s := by
  refine wpAny_call (codeAny_call_builtin PySem.F.slot_object_ne.plain PySem.F.entry_object_ne (check_slot (i := "object.__ne__") (owner := "object") (n := "__ne__") (by decide +kernel) (by decide +kernel) (I.type.andThen (looks_mroIn X hm)) (PySem.F.args_object_ne_2 _ _) ?_))
  unfold Builtin.«object.__ne__»
  refine wpAny_bind (m := slotArgs "__ne__" 1 _) (wpAny_pure ?_)
  refine wpAny_bind (m := cRoomFor _ _) (wpAny_cRoomFor hu ?_)
  refine wpAny_bind (m := callSpecialIfBound? (.ref x) (Str.ofString "__eq__") _) (ifBound_K X I he hf (wpAny_mono h (fun r s' hq => ?_) fun _ _ y => y))
  obtain ⟨r, rfl, hq⟩ := hq
  exact wpAny_bind (wpAny_truthy_bool (wpAny_pure hq))
theorem ne_K {Q : Value → Shared → Prop} (hu : A.units < cLine) (hu1 : A.in1.units < cLine) (X : K.In s.heap) (I : InstAt s.heap x ox C od) (hb : Looks (model prog w) s.heap (typeOf b) tb) (hn : notFirst K C tb = true) (hm : mroIn K C (.type "object") = some true)
    (hs : findIn K (.ref C) "__ne__" = some (some (.builtin "object.__ne__"))) (he : findIn K (.ref C) "__eq__" = some (some (.ref f))) (hf : isFn K (.ref f) = true)
    (h : wpAny (model prog w) A.in1 (call (.ref f) [.ref x, b]) (fun v s' => ∃ r, v = .bool r ∧ Q (.bool (!r)) s') E s) : wpAny (model prog w) A (richCompare .NotEq (.ref x) b) Q E s := by
  have one : wpAny (model prog w) A (tryCompare (.ref x) "__ne__" b) (fun r s' => ∃ v, r = some v ∧ Q v s') E s := by
    unfold tryCompare
    refine wpAny_bind (ifBound_B X I hs PySem.F.slot_object_ne.bind (obj_ne hu1 X I hm he hf (wpAny_mono h (fun v s' hv => ?_) fun _ _ e => e)))
    obtain ⟨r, rfl, hv⟩ := hv
    exact ⟨r, rfl, wpAny_pure ⟨_, rfl, hv⟩⟩
  unfold richCompare
  simp only [oneThing_ref]
  refine wpAny_holding (wpAny_bind (wpAny_cRoomFor hu ?_))
  refine wpAny_bind (I.type.here (wpAny_bind (hb.here ?_)))
  split
  · rename_i q
    have e : subIn K tb (.ref C) = some false := by
      rcases Bool.or_eq_true_iff.mp hn with e | e
      · rw [beq_iff_eq.mp e] at q; simp at q
      · exact beq_iff_eq.mp e
    refine wpAny_bind ((looks_subIn X e).here ?_)
    simp only [Bool.false_eq_true, if_false]
    refine wpAny_bind (wpAny_mono one (fun r s' z => ?_) fun _ _ e => e)
    obtain ⟨v, rfl, hq⟩ := z
    exact wpAny_pure hq
  · refine wpAny_bind (wpAny_pure ?_)
    simp only [Bool.false_eq_true, if_false]
    refine wpAny_bind (wpAny_mono one (fun r s' z => ?_) fun _ _ e => e)
    obtain ⟨v, rfl, hq⟩ := z
    exact wpAny_pure hq
end
/-- two instances of C compared by its own __eq__ -/
def rOwn (C : Addr) (neg : Bool) (sp : Sp) (E : XK) : R2 := fun x y H Q => ∃ a dx fs b dy gs, x = .ref a ∧ y = .ref b ∧ H a = some (.ins C dx fs) ∧ H b = some (.ins C dy gs) ∧ sp [.ref a, .ref b] H (fun v H' => ∃ r, v = .bl r ∧ Q (.bl (if neg then !r else r)) H') E
section
variable {X : Cx} {k j : Nat} {C : Addr} {ps : List Str} {sp : Sp} {E : XK}
theorem op_ownEq (c : MetE X.prog X.w X.K X.mg X.base k C "__eq__" ps sp) (hr : Room j X.A) (hk : k ≤ j) (hx : Passes (L2.CX X.prog X.w) X E) : OpR X (compareOp .Eq) (rOwn C false sp E) := by
  intro pins s σ H x y v u Q I rx ry h
  obtain ⟨a, dx, fs, b, dy, gs, rfl, rfl, ha, hb', hsp⟩ := h
  obtain ⟨cl, f, fd, M, F, hb⟩ := c
  cases rx
  cases ry
  obtain ⟨mA, J, _⟩ := ins_get I.hok ha
  obtain ⟨mB, J', _⟩ := ins_get I.hok hb'
  obtain ⟨od, J, _⟩ := J.look
  obtain ⟨od', J', _⟩ := J'.look
  obtain ⟨m, hF⟩ := I.fr
  have hr := hr.mono hk
  refine PySem.W.cmp_K (op := .Eq) (tb := .ref C) hr.units0 hF I.ok.mod.kin J J'.type (by simp [PySem.W.notFirst]) M.at_ M.fn ?_
  have hl := F.len _ _ _ _ hsp
  have r2 : Vals [V.ref a, V.ref b] [Value.ref a, Value.ref b] := .cons rfl (.cons rfl .nil)
  refine wpAny_call (codeAny_mono (F.run X.A X.stack s H ⟨[.ref a, .ref b], []⟩ [.ref a, .ref b] [.ref a, .ref b] _ E hr I.env0 (by
    have := hb s [.ref a, .ref b] I.kIn (by simpa using hl)
    simpa using this) r2 hsp) fun r s' hq => ?_)
  cases r with
  | error e => exact hx pins σ H s e s' I hq
  | ok fl =>
    cases fl with
    | ret w =>
      obtain ⟨z, H', I', rz, r, ez, q⟩ := I.after hq
      subst ez
      cases rz
      exact ⟨.bl r, H', I', rfl, q⟩
    | next => exact False.elim hq
    | brk => exact False.elim hq
    | cont => exact False.elim hq
theorem op_ownNe (c : MetE X.prog X.w X.K X.mg X.base k C "__eq__" ps sp) (hm : PySem.W.mroIn X.K C (.type "object") = some true) (hs : PySem.W.findIn X.K (.ref C) "__ne__" = some (some (.builtin "object.__ne__"))) (hr : Room j X.A) (hk : k + 1 ≤ j) (hx : Passes (L2.CX X.prog X.w) X E) :
    OpR X (compareOp .NotEq) (rOwn C true sp E) := by
  intro pins s σ H x y v u Q I rx ry h
  obtain ⟨a, dx, fs, b, dy, gs, rfl, rfl, ha, hb', hsp⟩ := h
  obtain ⟨cl, f, fd, M, F, hb⟩ := c
  cases rx
  cases ry
  obtain ⟨mA, J, _⟩ := ins_get I.hok ha
  obtain ⟨mB, J', _⟩ := ins_get I.hok hb'
  obtain ⟨od, J, _⟩ := J.look
  obtain ⟨od', J', _⟩ := J'.look
  have hr1 : Room (k + 1) X.A := hr.mono hk
  show wpAny (model X.prog X.w) X.A (richCompare .NotEq (.ref a) (.ref b)) _ _ _
  refine ne_K (tb := .ref C) hr1.units0 hr1.in1.units0 I.kIn J J'.type (by simp [PySem.W.notFirst]) hm hs M.at_ M.fn ?_
  have hl := F.len _ _ _ _ hsp
  have r2 : Vals [V.ref a, V.ref b] [Value.ref a, Value.ref b] := .cons rfl (.cons rfl .nil)
  refine wpAny_call (codeAny_mono (F.run X.A.in1 X.stack s H ⟨[.ref a, .ref b], []⟩ [.ref a, .ref b] [.ref a, .ref b] _ E hr1.in1 I.env0.in1 (by
    have := hb s [.ref a, .ref b] I.kIn (by simpa using hl)
    simpa using this) r2 hsp) fun r s' hq => ?_)
  cases r with
  | error e => exact hx pins σ H s e s' I hq
  | ok fl =>
    cases fl with
    | ret w =>
      obtain ⟨z, H', I', rz, r, ez, q⟩ := I.after hq
      subst ez
      cases rz
      exact ⟨r, rfl, .bl _, H', I', rfl, q⟩
    | next => exact False.elim hq
    | brk => exact False.elim hq
    | cont => exact False.elim hq
end
/-! ### a range with its step as a value -/
def rgo (p : Addr) (lo hi c : Int) : HO := .ext fun h => ∃ t u v, h.get? p = some { cls := .type "range", dict := none, data := .fields #[.int lo t, .int hi u, .int c v], slots := #[] }
def rRange3 : List V → Hp → VK → Prop := fun vs H Q => ∃ i j c : Int, vs = [.int i, .int j, .int c] ∧ c ≠ 0 ∧ c.natAbs < 1073741824 ∧ ∀ p, H p = none → Q (.ref p) (upd H p (rgo p i j c))
theorem cr_range3 {X : Cx} : CallR X (.type "range") rRange3 := by
  intro pins s σ H vs us Q I r h
  obtain ⟨i, j, c, rfl, c0, c1, q⟩ := h
  cases r with
  | cons r rr =>
    cases rr with
    | cons r' rr =>
      cases rr with
      | cons r'' rr =>
        cases rr
        obtain ⟨t, rfl⟩ := r
        obtain ⟨t', rfl⟩ := r'
        obtain ⟨t'', rfl⟩ := r''
        refine call_range_3 c0 ⟨.ref s.heap.objs.size, upd H s.heap.objs.size (rgo s.heap.objs.size i j c), I.laid (t' := s.toks) (fun b o e => Heap.get?_push_of_some _ e) (Nat.le_refl _) ?_, rfl, q _ (I.hok.fresh (Nat.le_refl _))⟩ (.inl (PyProof.noPylong_small c1))
        have e : (s.heap.push { cls := .type "range", data := .fields #[.int i t, .int j t', .int c t''] }).get? s.heap.objs.size = some { cls := .type "range", dict := none, data := .fields #[.int i t, .int j t', .int c t''], slots := #[] } := Heap.get?_push_size _ rfl
        exact ⟨⟨t, t', t'', e⟩, ⟨_, e⟩, fun h1 h2 ⟨a, b, d, q⟩ k => ⟨a, b, d, k _ q⟩⟩
def iRgo (te : TE) : TI := fun σ H R => te σ H fun v H1 => ∃ (p : Addr) (i j c : Int) (n : Nat), v = .ref p ∧ H1 p = some (rgo p i j c) ∧ RgC i j c n ∧ R (Itc i c n) H1
theorem pi_rgo {X : Cx} {tg e : Expr} {te : TE} (he : PE X e te) : PI X tg e (iRgo te) := by
  refine ⟨fun pins s σ H R I h => ?_⟩
  refine thn (he.run pins s σ H _ I h) fun v s1 ⟨y, H1, I1, r1, p, i, j, c, n, ey, hp, ⟨c0, c1, c2, c3⟩, q⟩ => ?_
  subst ey
  obtain rfl : v = Value.ref p := r1
  obtain ⟨⟨t, u, w, ho⟩, _⟩ := I1.hok p _ hp
  refine wpAny_pyIter_range ho c2 ?_
  refine pi_one (tk := s1.toks) I1 _ (turn_rangeC _ i c n) ?_ q
  have e1 : i + ((0 : Nat) : Int) * c = i := by simp
  have e2 : (n : Int) - ((0 : Nat) : Int) = Builtin.Range.rangeSize i j c := by rw [c3]; simp
  show IsRangeIter _ _ (i + ((0 : Nat) : Int) * c) ((n : Int) - ((0 : Nat) : Int)) c
  rw [e1, e2]
  exact Heap.get?_push_size _ rfl
end PB
namespace PB
open PySem PySem.Spec L2
open PyProof.Rows hiding St
/-! ### a lambda called in a try whose value is told in a pair -/
/-- what it was: (w1, the value) or (w2, what the exception's field says) -/
def TTtold (C : Addr) (f w1 w2 : Str) : (XK → Hp → VK → Prop) → Hp → VK → Prop := fun tl H Q =>
  tl (fun cls d H' => cls = .ref C ∧ ∃ dd v, d = some dd ∧ H' dd = some (.xd [(f, v)]) ∧ [V.str w2, v].length ≤ sizeLine ∧ ∀ p, H' p = none → Q (.ref p) (upd H' p (.tup [.str w2, v]))) H fun v H' => [V.str w1, v].length ≤ sizeLine ∧ ∀ p, H' p = none → Q (.ref p) (upd H' p (.tup [.str w1, v]))
theorem told_gives {X : Cx} {x a e n f q w1 w2 : Str} {sg : Scope} {g CS : Addr} {cdg : Value} {j j2 : Nat} {k1 k2 : Nat} {p1 p2 p3 p4 p5 p6 p7 p8 p9 p10 p11 p12 p13 : Pos} (hge : sg.names.lookup e = some .globalImplicit) (hme : X.mg e = some (.ref CS)) (hde : (e == ("__debug__" : Str)) = false)
    (T : XfC X.K CS) (hno : PySem.W.findIn X.K (.ref CS) f = some none) (hex : PySem.W.exmOne X.K (.ref CS) (.ref CS) = some true) (hnd : [a, n].Nodup) (hln : sg.names.lookup n = some .local) (hn1 : (n == ("__debug__" : Str)) = false) (hn2 : (n == ("__classdict__" : Str)) = false)
    (hb : ∀ env : Env, attributeBase (.Name n p7) f env (eval (.Name n p7) env) = eval (.Name n p7) env)
    (hs1 : ∀ env : Env, starEach [.Constant (.str w1) j p13, .Call (.Name a p1) [] [] p2] env = (false, eval (.Constant (.str w1) j p13) env) :: starEach [.Call (.Name a p1) [] [] p2] env := by intro _; rfl)
    (hs2 : ∀ env : Env, starEach [.Call (.Name a p1) [] [] p2] env = (false, eval (.Call (.Name a p1) [] [] p2) env) :: starEach [] env := by intro _; rfl) :
    LamX.GivesTo X [a, n] x sg g cdg [.Try [.Return (some (.Tuple [.Constant (.str w1) j p13, .Call (.Name a p1) [] [] p2] k1 p3)) p4] [.ExceptHandler (some (.Name e p5)) (some n) [.Return (some (.Tuple [.Constant (.str w2) j2 p6, .Attribute (.Name n p7) f p8] k2 p9)) p10] p11] [] [] p12] a q (TTtold CS f w1 w2) := by
  intro fa c' s H Q tl act hc h
  have hgl : Gl (cxOf C8.CX0 X.prog X.w X.K X.mg X.base [a, n] x sg g cdg X.A X.stack s H C8.E0).nox e := hge
  refine ⟨_, pss_one (ps_try_as (X := (cxOf C8.CX0 X.prog X.w X.K X.mg X.base [a, n] x sg g cdg X.A X.stack s H C8.E0).nox) (c := .ref CS) (i := 1)
      (tb := fun W D σ H => ∃ Ech : XK, (∀ cls d σ' H', σ'.length = 2 → Ech cls d H' → W cls d σ' H') ∧ σ[0]? = some (some (.ref fa)) ∧ H c' = some (LamX.CodeO c' q) ∧ tl Ech H fun v H' => [V.str w1, v].length ≤ sizeLine ∧ ∀ p, H' p = none → D.rt (.ref p) (upd H' p (.tup [.str w1, v])))
      rfl rfl hnd rfl hln ⟨hgl, hde, .inl hme⟩ LamX.takes0 (fun W pn xe tk _ => ?_) (fun b oe cls d pn hz hf => pss_one (ps_ret (pe_tup (pa_cons pe_str (pa_cons (pe_xf T hno hz hf (pe_var (i := 1) rfl (.inl hln) hn1 hn2) (hb _)) pa_nil)))))), ?_⟩
  · refine ⟨fun pins s' σ H' D I h' => ?_⟩
    obtain ⟨Ech, hW, h1, h2, h3⟩ := h'
    have hp := act _ pn xe Ech p1 p2 (takes_len (n := 2) rfl tk) fun cls d σ' H' k l => hW cls d σ' H' l k
    exact (pss_one (ps_ret (pe_tup (pa_cons pe_str (pa_cons hp pa_nil (hs2 _)) (hs1 _))))).run pins s' σ H' D I ⟨h1, h2, h3⟩
  · refine ⟨fun cls d H' => cls = .ref CS ∧ ∃ dd v, d = some dd ∧ H' dd = some (.xd [(f, v)]) ∧ [V.str w2, v].length ≤ sizeLine ∧ ∀ p, H' p = none → Q (.ref p) (upd H' p (.tup [.str w2, v])), fun cls d σ' H' hl hE => ?_, rfl, hc, h⟩
    obtain ⟨rfl, dd, v, rfl, hd, hq⟩ := hE
    refine ⟨true, hex, fun _ b hb' => ?_, fun z => by cases z⟩
    match σ', hl with
    | [s0, s1], _ => exact ⟨.ref b, rfl, rfl, rfl, dd, [(f, v)], v, rfl, hd, by rw [List.lookup_cons, beq_self_eq_true], hq⟩
/-- the def that tells what its lambda gave -/
def RefT (K : PySem.W.Frag) (mg : Str → Option Value) (x : Str) (TT : (XK → Hp → VK → Prop) → Hp → VK → Prop) : Prop :=
  ∃ (g : Addr) (oc : Value) (od : Option Addr) (osl : Array (Option Value)) (pg : Arguments) (bg : List Stmt) (sg : Scope) (dV kV doc pm cdv ct : Value) (an : Option Addr) (a n : Str),
    K.lookup g = some ⟨oc, od, .func (PySem.W.fnOf x x pg bg sg dV kV doc pm an cdv ct), osl⟩ ∧ PySem.W.keepIn K (.ref g) = true ∧ PySem.W.codeIn K cdv x = true ∧ mg x = some (.ref g) ∧ L2.Binds K (PySem.W.fnOf x x pg bg sg dV kV doc pm an cdv ct) [a] [] ∧
      FnScope [a, n] [a] sg ∧ sg.names.lookup a = some .local ∧ ((a == ("__debug__" : Str)) = false ∧ (a == ("__classdict__" : Str)) = false) ∧ ∀ X : Cx, X.K = K → X.mg = mg → ∀ q, LamX.GivesTo X [a, n] x sg g cdv bg a q TT
theorem pe_refT {X : Cx} {T : List (Addr × Str)} {TT : (XK → Hp → VK → Prop) → Hp → VK → Prop} {x : Str} {c P : Addr} {k j : Nat} {params : Arguments} {body : Expr} {scope : Scope} {t : XK → TE} {p lpos pos : Pos} (R : RefT X.K X.mg x TT) (TB : LamX.TabB X.base X.mg c P) (hcode : X.env.code = .ref c)
    (hm : (P, X.env.qual ++ "<lambda>") ∈ T) (hu : ∀ p ∈ T, p.1 = P → p.2 = X.env.qual ++ "<lambda>")
    (hr : Room j X.A) (hk : k + 2 ≤ j) (L : LamX.LamS X.env.scope scope) (hdef : defaultsOf params X.env = ([], [])) (hbind : ∀ (q : Str) (cl : List (Str × Addr)) (pm cv ctv : Value), bindArgs (PySem.W.kla_fn "<lambda>" q params body scope cl pm cv ctv) ⟨[], []⟩ = pure [])
    (hbody : ∀ (A : Around) (outer : List Env) (s : Shared) (H : Hp) (E : XK) (f c' : Addr), Room k (A.deeper (LamX.lamEnv X scope s.heap.objs.size f c')) → PE (LamX.lamCx X A outer s H E scope f c') body (t E))
    (hg : Gl X x := by rfl) (hdb : (x == ("__debug__" : Str)) = false := by decide) : PE X (.Call (.Name x p) [.Lambda params body scope lpos] [] pos) (LamX.tLam T TT t) := by
  obtain ⟨g, oc, od, osl, pg, bg, sg, dV, kV, doc, pm, cdv, ct, an, a, n, lk, kp, hcg, hm', hb, Sg, hla, ⟨d1, d2⟩, G⟩ := R
  exact LamX.pe_lamcall (c := c) (P := P) hg hm' kp lk hcg hb Sg rfl (.inl hla) (G X rfl rfl _) TB hcode hm hu (hr.mono hk) L hdef hbind hbody hdb d1 d2
end PB

/-! PO: own classes at the head: getters, isinstance, == and !=; methods by place and by keyword; frames but for some addresses. -/
namespace PB
open PySem PySem.Spec L2
open PyProof.Rows hiding St
abbrev InsC := C8.InsC
theorem passP {X : Cx} : Passes (L2.CX X.prog X.w) X.nox E0 := passL (X := X.nox)
/-- what isinstance, != and == ask of an own class -/
def insB (K : PySem.W.Frag) (x : Str) : Bool :=
  eqS (PySem.W.findIn K (.ref (He.ga K x)) "__class__") (some (some (.builtin "object.__class__"))) && (eqS (PySem.W.specialIn K (.builtin "object.__class__") "__get__") (some (some (.builtin "getset_descriptor.__get__"))) &&
  (decide (PySem.W.takesIn K (.builtin "object.__class__") = some true) && (decide (PySem.W.mroIn K (He.ga K x) (.type "object") = some true) && (decide (PySem.W.kitOne K (.ref (He.ga K x)) (.ref (He.ga K x)) = some true) &&
  eqS (PySem.W.findIn K (.ref (He.ga K x)) "__ne__") (some (some (.builtin "object.__ne__")))))))
structure OwnC (K : PySem.W.Frag) (x : Str) : Prop where
  ha : PySem.W.findIn K (.ref (He.ga K x)) "__class__" = some (some (.builtin "object.__class__"))
  hn : PySem.W.specialIn K (.builtin "object.__class__") "__get__" = some (some (.builtin "getset_descriptor.__get__"))
  htk : PySem.W.takesIn K (.builtin "object.__class__") = some true
  hm : PySem.W.mroIn K (He.ga K x) (.type "object") = some true
  me : PySem.W.kitOne K (.ref (He.ga K x)) (.ref (He.ga K x)) = some true
  ne : PySem.W.findIn K (.ref (He.ga K x)) "__ne__" = some (some (.builtin "object.__ne__"))
theorem insB_ok {K : PySem.W.Frag} {x : Str} (h : insB K x = true) : OwnC K x := by
  unfold insB at h
  simp only [Bool.and_eq_true, eqS, decide_eq_true_eq] at h
  obtain ⟨h1, h2, h3, h4, h5, h6⟩ := h
  exact ⟨h1, h2, h3, h4, h5, h6⟩
/-- isinstance(a, C), a an instance of C -/
def rIsC (C : Addr) : List V → Hp → VK → Prop := fun xs H Q => ∃ a dx fs, xs = [.ref a, .ref C] ∧ H a = some (.ins C dx fs) ∧ Q (.bl true) H
theorem k_isC {X : Cx} {K : PySem.W.Frag} {C : Addr} (eK : X.K = K) (c : InsC K C) : CallR X (.builtin "isinstance") (rIsC C) := by subst eK; exact C8.call_isC c
theorem k_maxL {X : Cx} {K : PySem.W.Frag} (eK : X.K = K) (hc : X.calm = true) : CallR X (.builtin "max") (rMax K) := by subst eK; exact cr_max hc
theorem r_isC {C a dx : Addr} {fs : List (Str × V)} {H : Hp} {Q : VK} (h : H a = some (.ins C dx fs)) (q : Q (.bl true) H) : rIsC C [.ref a, .ref C] H Q := ⟨a, dx, fs, rfl, h, q⟩
/-- what the top has left, own classes too -/
structure CtJ (fa : List He.Fa) (fn : List He.DefD) (pd : List PrpD) (oc : List Str) (K : PySem.W.Frag) (mg : Str → Option Value) (base : Heap) : Prop extends Ct fa fn K mg base where
  prp : ∀ (i : Nat) (d : PrpD), pd[i]? = some d → PropOf K (clsA K d.x) d.m (prpO K d.x d.m) (prpA K d.x d.m) ∧ ∃ fd, FunD K d.m (d.x ++ "." ++ d.m) d.params d.body d.scope [] [] (prpA K d.x d.m) fd
  own : ∀ x ∈ oc, OwnC K x
section
variable {P : Program} {w : World} {fa : List He.Fa} {fn : List He.DefD} {pd : List PrpD} {oc : List Str} {K : PySem.W.Frag} {mg : Str → Option Value} {base : Heap}
theorem CtJ.insC (C : CtJ fa fn pd oc K mg base) (c : Nat) {x : Str} (hx : x ∈ oc) (hc : fa[c]? = some (.cls x)) : InsC K (He.ga K x) :=
  have o := C.own x hx
  ⟨He.cls_ok (C.says.fact c hc), o.ha, o.hn, o.htk, o.hm, o.me⟩
theorem CtJ.prpE (C : CtJ fa fn pd oc K mg base) (i c : Nat) {x m qual : Str} {a : Arguments} {b : List Stmt} {sc : Scope} (hd : pd[i]? = some ⟨x, m, a, b, sc⟩) (hq : x ++ "." ++ m = qual) (hc : fa[c]? = some (.cls x)) {N ps : List Str} {k : Nat} {sp : Sp} (S : FnScope N ps sc)
    (hb : ∀ (kV doc pm : Value) (an : Option Addr) (cdv ct : Value) (us : List Value), us.length = ps.length → bindArgs (PySem.W.fnOf m qual a b sc .none kV doc pm an cdv ct) ⟨us, []⟩ = pure (ps.zip us))
    (len : ∀ vs H Q E, sp vs H Q E → vs.length = ps.length)
    (hbody : ∀ (f : Addr) (cdv : Value) (A : Around) (outer : List Env) (s : Shared) (H : Hp) (vs : List V) (Q : VK) (E : XK), Room k (A.deeper (envOfC qual sc s.heap.objs.size f cdv)) → sp vs H Q E →
      ∃ t, PSs (cxOf (L2.CX P w) P w K mg base N qual sc f cdv A outer s H E) b t ∧ t { nx := fun _ H' => Q .non H', rt := Q } (start N vs) H) : PrpE P w K mg base (k + 1) (He.ga K x) m ps sp := by
  subst hq
  obtain ⟨pr, fd, F⟩ := C.prp i _ hd
  exact ⟨He.cls_ok (C.says.fact c hc), _, _, fd, pr, FunD.ok F S len fun cdv A outer s H vs Q E hr h => hbody _ cdv A outer s H vs Q E hr h, FunD.bindsN F hb⟩
/-- a method: by place and by its keywords -/
theorem Ct.met2 (C : Ct fa fn K mg base) (i j c : Nat) {x m qual : Str} {a : Arguments} {b : List Stmt} {sc : Scope} (hd : fn[i]? = some ⟨(x, some m), m, qual, a, b, sc, [], []⟩) (hj : fa[j]? = some (.meth x m)) (hc : fa[c]? = some (.cls x)) {N ps : List Str} {s0 : Str} {ks : List Str} {k : Nat} {sp : Sp} (S : FnScope N ps sc)
    (hps : ps = s0 :: ks) (hb : ∀ (kV doc pm : Value) (an : Option Addr) (cdv ct : Value) (us : List Value), us.length = ps.length → bindArgs (PySem.W.fnOf m qual a b sc .none kV doc pm an cdv ct) ⟨us, []⟩ = pure (ps.zip us))
    (hb2 : ∀ (kV doc pm : Value) (an : Option Addr) (cdv ct : Value) (u : Value) (ws : List Value), ws.length = ks.length → bindArgs (PySem.W.fnOf m qual a b sc .none kV doc pm an cdv ct) ⟨[u], ks.zip ws⟩ = pure (ps.zip (u :: ws)))
    (len : ∀ vs H Q E, sp vs H Q E → vs.length = ps.length)
    (hbody : ∀ (f : Addr) (cdv : Value) (A : Around) (outer : List Env) (s : Shared) (H : Hp) (vs : List V) (Q : VK) (E : XK), Room k (A.deeper (envOfC qual sc s.heap.objs.size f cdv)) → sp vs H Q E →
      ∃ t, PSs (cxOf (L2.CX P w) P w K mg base N qual sc f cdv A outer s H E) b t ∧ t { nx := fun _ H' => Q .non H', rt := Q } (start N vs) H) :
    MetE P w K mg base (k + 1) (He.ga K x) m ps sp ∧ MetK P w K mg base (k + 1) (He.ga K x) m ks sp (fun xs zs => xs ++ zs) := by
  obtain ⟨fd, F⟩ := C.says.def_ i hd
  have ok := FunD.ok F S len fun cdv A outer s H vs Q E hr h => hbody _ cdv A outer s H vs Q E hr h
  refine ⟨⟨He.cls_ok (C.says.fact c hc), _, fd, He.meth_ok (C.says.fact j hj), ok, FunD.bindsN F hb⟩, ?_⟩
  obtain ⟨oc, od, dV, kV, doc, pm, an, cdv, ct, osl, rfl, lk, hcd, hD, hK⟩ := F.ex
  have dn : dV = .none := by
    rcases hD with ⟨_, e⟩ | ⟨e, _⟩
    · exact e
    · exact absurd rfl e
  subst dn
  refine ⟨He.cls_ok (C.says.fact c hc), _, _, ps, fun us ws => us ++ ws, He.meth_ok (C.says.fact j hj), ok, ⟨fun s us ws _ l1 l2 => ?_, fun r1 r2 => r1.append r2⟩⟩
  match us, l1 with
  | [u], _ => exact .of_eq (hb2 kV doc pm an cdv ct u ws l2)
theorem Ct.mak2 (C : Ct fa fn K mg base) (i j g : Nat) {x qual : Str} {a : Arguments} {b : List Stmt} {sc : Scope} (hd : fn[i]? = some ⟨(x, some "__init__"), "__init__", qual, a, b, sc, [], []⟩) (hj : fa[j]? = some (.mkr x)) (hg : fa[g]? = some (.glo x)) {N ps : List Str} {s0 : Str} {ks : List Str} {k : Nat} {sp : Sp} (S : FnScope N ps sc)
    (hps : ps = s0 :: ks) (hb : ∀ (kV doc pm : Value) (an : Option Addr) (cdv ct : Value) (us : List Value), us.length = ps.length → bindArgs (PySem.W.fnOf "__init__" qual a b sc .none kV doc pm an cdv ct) ⟨us, []⟩ = pure (ps.zip us))
    (hb2 : ∀ (kV doc pm : Value) (an : Option Addr) (cdv ct : Value) (u : Value) (ws : List Value), ws.length = ks.length → bindArgs (PySem.W.fnOf "__init__" qual a b sc .none kV doc pm an cdv ct) ⟨[u], ks.zip ws⟩ = pure (ps.zip (u :: ws)))
    (len : ∀ vs H Q E, sp vs H Q E → vs.length = ps.length)
    (hbody : ∀ (f : Addr) (cdv : Value) (A : Around) (outer : List Env) (s : Shared) (H : Hp) (vs : List V) (Q : VK) (E : XK), Room k (A.deeper (envOfC qual sc s.heap.objs.size f cdv)) → sp vs H Q E →
      ∃ t, PSs (cxOf (L2.CX P w) P w K mg base N qual sc f cdv A outer s H E) b t ∧ t { nx := fun _ H' => Q .non H', rt := Q } (start N vs) H) :
    MakE P w K mg base (k + 1) x (He.ga K x) ps sp ∧ MakK P w K mg base (k + 1) x (He.ga K x) ks sp (fun xs zs => xs ++ zs) := by
  obtain ⟨fd, F⟩ := C.says.def_ i hd
  have ok := FunD.ok F S len fun cdv A outer s H vs Q E hr h => hbody _ cdv A outer s H vs Q E hr h
  refine ⟨⟨He.glo_ok C.kin C.glob (C.says.fact g hg), _, fd, He.mkr_ok (C.says.fact j hj), ok, FunD.bindsN F hb⟩, ?_⟩
  obtain ⟨oc, od, dV, kV, doc, pm, an, cdv, ct, osl, rfl, lk, hcd, hD, hK⟩ := F.ex
  have dn : dV = .none := by
    rcases hD with ⟨_, e⟩ | ⟨e, _⟩
    · exact e
    · exact absurd rfl e
  subst dn
  refine ⟨He.glo_ok C.kin C.glob (C.says.fact g hg), _, _, ps, fun us ws => us ++ ws, He.mkr_ok (C.says.fact j hj), ok, ⟨fun s us ws _ l1 l2 => ?_, fun r1 r2 => r1.append r2⟩⟩
  match us, l1 with
  | [u], _ => exact .of_eq (hb2 kV doc pm an cdv ct u ws l2)
end
/-! ### frames: all but some addresses and the tables -/
def EO (ds : List Addr) (H H' : Hp) : Prop := ∀ b o, b ∉ ds → H b = some o → (∀ ps, o ≠ .tbl ps) → H' b = some o
section
variable {ds es : List Addr} {H H1 H2 H' : Hp} {a d p : Addr} {K : PySem.W.Frag}
theorem EO.e (e : Ex H H') : EO ds H H' := fun b o _ h _ => e b o h
theorem EO.n (e : ExN H H') : EO ds H H' := fun b o _ h t => e b o h t
theorem EO.b (e : ExB d H H') (m : d ∈ ds) : EO ds H H' := fun b o n h _ => e b o (fun z => n (z ▸ m)) h
theorem EO.en (e : EN d H H') (m : d ∈ ds) : EO ds H H' := fun b o n h t => e b o (fun z => n (z ▸ m)) h t
theorem EO.tr (x : EO ds H H1) (y : EO ds H1 H2) : EO ds H H2 := fun b o n h t => y b o n (x b o n h t) t
theorem EO.sub (x : EO ds H H1) (m : ∀ d ∈ ds, d ∈ es) : EO es H H1 := fun b o n h t => x b o (fun z => n (m b z)) h t
theorem EO.put {o : HO} (m : p ∈ ds) : EO ds H (upd H p o) := fun b u n h _ => (upd_ne (fun z => n (by rw [z]; exact m))).trans h
theorem EO.refl : EO ds H H := fun _ _ _ h _ => h
theorem EO.lst {xs : List V} (e : EO ds H H') (n : a ∉ ds) (h : H a = some (.lst xs)) : H' a = some (.lst xs) := e a _ n h (fun _ z => nomatch z)
theorem EO.ins {C dx : Addr} {fs : List (Str × V)} (e : EO ds H H') (n : a ∉ ds) (h : H a = some (.ins C dx fs)) : H' a = some (.ins C dx fs) := e a _ n h (fun _ z => nomatch z)
theorem EO.tup {xs : List V} (e : EO ds H H') (n : a ∉ ds) (h : H a = some (.tup xs)) : H' a = some (.tup xs) := e a _ n h (fun _ z => nomatch z)
theorem EO.sqT {xs : List V} (e : EO ds H H') (n : a ∉ ds) (h : SqT K H a xs) : SqT K H' a xs := by
  rcases h with (h | ⟨o, h⟩) | h
  · exact .inl (.inl (e.tup n h))
  · exact .inl (.inr ⟨o, e a _ n h (fun _ z => nomatch z)⟩)
  · exact .inr h
theorem EO.sqL {xs : List V} (e : EO ds H H') (n : a ∉ ds) (h : SqL K H a xs) : SqL K H' a xs := by
  rcases h with (h | ⟨o, h⟩) | h
  · exact .inl (.inl (e.lst n h))
  · exact .inl (.inr ⟨o, e a _ n h (fun _ z => nomatch z)⟩)
  · exact .inr h
theorem EO.dice {n : Nat} (e : EO ds H H') (m : d ∉ ds) (h : Dice n H d) : Dice n H' d := by
  obtain ⟨x, y, z, h1, h2⟩ := h
  exact ⟨x, y, z, e.lst m h1, h2⟩
end
end PB
namespace PB
open PySem PySem.Spec L2
open PyProof.Rows hiding St
section
variable {σ : St} {H : Hp} {Q : VK} {K : PySem.W.Frag} {tt : TT} {te : TE} {vs : List Nat} {j m : Nat} {J : It} {g : Nat → V}
/-- rows, one or none of each turn -/
theorem c_wR (w : Walk J m (fun _ => True) (YFn g)) (f : Nat → Option (List Int)) (hm : m < 16000000) (hw : ∀ x, wipe ((wipe σ vs).set j (some x)) vs = wipe σ vs)
    (turn : ∀ (i : Nat) H1 (q : VK) (N : Hp → Prop), i < m → Ex H H1 → (∀ v r H4, f i = some r → Ex H1 H4 → Row K H4 v r → q v H4) → (f i = none → ∀ H4, Ex H1 H4 → N H4) →
      tt ((wipe σ vs).set j (some (g i))) H1 fun b H4 => if b = true then te ((wipe σ vs).set j (some (g i))) H4 q else N H4)
    (done : ∀ L H' us, H L = none → Ex H H' → H' L = some (.lst us) → us.length ≤ m → Rws K H' us ((List.range m).filterMap f) → Q (.ref L) H') : CQ (gName j) tt te vs σ Q J H := by
  refine c_it w hm (fun _ _ => trivial) (fun i acc H' => Rws K H' acc ((List.range i).filterMap f)) (fun _ _ => .nil) (fun L i acc H1 u u' hL _ p => p.put hL) ?_ ?_
  · rintro i x acc H1 H2 q N hi e1 p ⟨rfl, rfl⟩ hq hN
    have tk : (List.range (i + 1)).filterMap f = (List.range i).filterMap f ++ (f i).toList := by
      rw [List.range_succ, List.filterMap_append]
      congr 1
    refine ⟨hw _, turn i H2 q N hi e1 (fun v r H4 er e4 rw' => hq v H4 e4 ?_) fun en H4 e4 => hN H4 e4 ?_⟩
    · rw [tk, er]
      exact (p.ex e4).snoc rw'
    · rw [tk, en, Option.toList_none, List.append_nil]
      exact p.ex e4
  · intro L acc H' h1 h2 h3 h4 h5
    exact done L H' acc h1 h2 h3 h4 h5
def fltV (p : Int → Bool) (f : Int → Int) : V → Option V
  | .int n => if p n then some (.int (f n)) else none
  | _ => none
theorem flt_map (p : Int → Bool) (f : Int → Int) : ∀ ns : List Int, (ns.map V.int).filterMap (fltV p f) = ((ns.filter p).map f).map V.int
  | [] => rfl
  | n :: ns => by
    rw [List.map_cons, List.filter_cons]
    by_cases c : p n = true
    · rw [if_pos c, List.filterMap_cons_some (b := .int (f n)) (by show (if p n = true then _ else _) = _; rw [if_pos c]), flt_map p f ns]; rfl
    · rw [if_neg c, List.filterMap_cons_none (by show (if p n = true then _ else _) = _; rw [if_neg c]), flt_map p f ns]
/-- the ints of a list or tuple that are kept, and what is made of each -/
theorem c_fltI {k : Sk} {a : Addr} {ns : List Int} (h : k.at K H a (ns.map V.int)) (p : Int → Bool) (f : Int → Int) (hn : ns.length < 16000000) (hw : ∀ x, wipe ((wipe σ vs).set j (some x)) vs = wipe σ vs)
    (turn : ∀ n H1 (q : VK) (N : Hp → Prop), n ∈ ns → Ex H H1 → (∀ H4, p n = true → Ex H1 H4 → q (.int (f n)) H4) → (∀ H3, p n = false → Ex H1 H3 → N H3) →
      tt ((wipe σ vs).set j (some (.int n))) H1 fun b H4 => if b = true then te ((wipe σ vs).set j (some (.int n))) H4 q else N H4)
    (done : ∀ L H', H L = none → Ex H H' → H' L = some (.lst (((ns.filter p).map f).map V.int)) → Q (.ref L) H') : sQ K (CQ (gName j) tt te vs σ Q) (.ref a) H := by
  refine c_seq h (fltV p f) (by rw [List.length_map]; exact hn) (fun H' e => k.ex e h) hw ?_ fun L H' h1 h2 h3 => done L H' h1 h2 ?_
  · intro x H1 q N hx e1 hq hN
    obtain ⟨n, hn', rfl⟩ := List.mem_map.mp hx
    exact turn n H1 q N hn' e1 (fun H4 hp e4 => hq _ H4 (by show (if p n = true then _ else _) = _; rw [if_pos hp]) e4) fun H3 hp e3 => hN H3 (by show (if p n = true then _ else _) = _; rw [if_neg (by rw [hp]; decide)]) e3
  · rw [h3, flt_map]
end
end PB
namespace PB
open PySem PySem.Spec L2
open PyProof.Rows hiding St
theorem isT_tup (p : PyData) : isT (tyD p) "tuple" = (match p with | .tuple _ => true | _ => false) := by
  cases p with
  | none => exact (show isT "NoneType" "tuple" = false by decide)
  | bool => exact (show isT "bool" "tuple" = false by decide)
  | int => exact (show isT "int" "tuple" = false by decide)
  | str => exact (show isT "str" "tuple" = false by decide)
  | list => exact (show isT "list" "tuple" = false by decide)
  | tuple => exact (show isT "tuple" "tuple" = true by decide)
  | dict => exact (show isT "dict" "tuple" = false by decide)
theorem isT_str (p : PyData) : isT (tyD p) "str" = (match p with | .str _ => true | _ => false) := by
  cases p with
  | none => exact (show isT "NoneType" "str" = false by decide)
  | bool => exact (show isT "bool" "str" = false by decide)
  | int => exact (show isT "int" "str" = false by decide)
  | str => exact (show isT "str" "str" = true by decide)
  | list => exact (show isT "list" "str" = false by decide)
  | tuple => exact (show isT "tuple" "str" = false by decide)
  | dict => exact (show isT "dict" "str" = false by decide)
end PB
namespace PB
open PySem PySem.Spec L2
open PyProof.Rows hiding St
theorem rgc_pos {i j c : Int} (hc : 0 < c) (hc1 : c < 1073741824) (h1 : 0 ≤ i) (h2 : i < 1000000) (h3 : 0 ≤ j) (h4 : j < 1000000) : RgC i j c (if i < j then ((j - i - 1) / c + 1).toNat else 0) := by
  have e : Builtin.Range.rangeSize i j c = ((if i < j then ((j - i - 1) / c + 1).toNat else 0 : Nat) : Int) := by
    unfold Builtin.Range.rangeSize
    rw [if_pos hc]
    split
    · have := Int.ediv_nonneg (show 0 ≤ j - i - 1 by omega) (show 0 ≤ c by omega)
      omega
    · rfl
  refine ⟨by omega, by omega, ?_, e⟩
  unfold Builtin.Range.small
  rw [e]
  simp only [Builtin.Range.rangeFitsLong, Bool.and_eq_true, Bool.or_eq_true, decide_eq_true_eq, beq_iff_eq, hc, if_true]
  have : ((if i < j then ((j - i - 1) / c + 1).toNat else 0 : Nat) : Int) ≤ 1000001 := by
    split
    · have := Int.ediv_le_self c (show 0 ≤ j - i - 1 by omega)
      omega
    · decide
  have : 0 ≤ ((if i < j then ((j - i - 1) / c + 1).toNat else 0 : Nat) : Int) := by omega
  generalize ((if i < j then ((j - i - 1) / c + 1).toNat else 0 : Nat) : Int) = n at *
  omega
theorem rgc_st {st cp : Nat} (h1 : 1 ≤ st) (h2 : st ≤ 1000) (h3 : cp ≤ 10000) : RgC (st : Int) ((cp : Int) + 1) (st : Int) (cp / st) := by
  have h := rgc_pos (i := (st : Int)) (j := (cp : Int) + 1) (c := (st : Int)) (by omega) (by omega) (by omega) (by omega) (by omega) (by omega)
  have e : (if (st : Int) < (cp : Int) + 1 then (((cp : Int) + 1 - st - 1) / st + 1).toNat else 0) = cp / st := by
    split
    · have e1 : (cp : Int) + 1 - st - 1 = ((cp - st : Nat) : Int) := by omega
      rw [e1, ← Int.natCast_ediv]
      have : cp / st = (cp - st) / st + 1 := by
        rw [← Nat.add_div_right _ (by omega)]
        congr 1
        omega
      rw [this]
      generalize (cp - st) / st = z
      omega
    · exact (Nat.div_eq_of_lt (by omega)).symm
  rw [e] at h
  exact h
theorem r_range3 {i j c : Int} {H : Hp} {Q : VK} (c0 : c ≠ 0) (c1 : c.natAbs < 1073741824) (q : ∀ p, H p = none → Q (.ref p) (upd H p (rgo p i j c))) : rRange3 [.int i, .int j, .int c] H Q := ⟨i, j, c, rfl, c0, c1, q⟩
theorem r_iRgo {te : TE} {σ : St} {H : Hp} {R : It → Hp → Prop} (h : te σ H fun v H1 => ∃ (p : Addr) (i j c : Int) (n : Nat), v = .ref p ∧ H1 p = some (rgo p i j c) ∧ RgC i j c n ∧ R (Itc i c n) H1) : iRgo te σ H R := h
end PB
namespace PB
open PySem PySem.Spec L2
open PyProof.Rows hiding St
def EB (ds : List Addr) (H H' : Hp) : Prop := ∀ b o, b ∉ ds → H b = some o → H' b = some o
section
variable {ds es : List Addr} {H H1 H2 H' : Hp} {a d p : Addr} {K : PySem.W.Frag}
theorem EB.eo (e : EB ds H H') : EO ds H H' := fun b o n h _ => e b o n h
theorem EB.e (e : Ex H H') : EB ds H H' := fun b o _ h => e b o h
theorem EB.tr (x : EB ds H H1) (y : EB ds H1 H2) : EB ds H H2 := fun b o n h => y b o n (x b o n h)
theorem EB.put {o : HO} (m : p ∈ ds) : EB ds H (upd H p o) := fun b u n h => (upd_ne (fun z => n (by rw [z]; exact m))).trans h
theorem EB.xb (e : ExB d H H') (m : d ∈ ds) : EB ds H H' := fun b o n h => e b o (fun z => n (z ▸ m)) h
theorem EB.sub (x : EB ds H H1) (m : ∀ d ∈ ds, d ∈ es) : EB es H H1 := fun b o n h => x b o (fun z => n (m b z)) h
theorem EB.tabs {T : List (Addr × Str)} (e : EB ds H H') (hd : ∀ d ∈ ds, (∃ xs, H d = some (.lst xs)) ∨ ∃ C dx fs, H d = some (.ins C dx fs)) (t : LamX.Tabs T H) : LamX.Tabs T H' := fun p hp => by
  obtain ⟨ps, h1, h2, h3⟩ := t p hp
  have ne : ∀ {b : Addr} {o : HO}, H b = some o → (∀ xs, o ≠ .lst xs) → (∀ C dx fs, o ≠ .ins C dx fs) → b ∉ ds := fun h n1 n2 m => by
    rcases hd _ m with ⟨xs, g⟩ | ⟨C, dx, fs, g⟩
    · rw [h] at g; injection g with g; exact n1 _ g
    · rw [h] at g; injection g with g; exact n2 _ _ _ g
  refine ⟨ps, e _ _ (ne h1 (fun _ z => nomatch z) fun _ _ _ z => nomatch z) h1, h2, fun pos cv hc => ?_⟩
  obtain ⟨c, e1, e2⟩ := h3 pos cv hc
  exact ⟨c, e1, e _ _ (ne e2 (fun _ z => nomatch z) fun _ _ _ z => nomatch z) e2⟩
end
end PB
namespace PB
open PySem PySem.Spec L2
theorem at_0 {α : Type} {x : α} {xs : List α} : atI (x :: xs) 0 = some x := atI_nat (j := 0) rfl
theorem at_1 {α : Type} {x y : α} {xs : List α} : atI (x :: y :: xs) 1 = some y := atI_nat (j := 1) rfl
theorem at_last {α : Type} {xs : List α} {v : α} (h : xs[xs.length - 1]? = some v) : atI xs (-1) = some v := by
  have hl : xs.length - 1 < xs.length := (List.getElem?_eq_some_iff.mp h).1
  have e : ixN xs.length (-1) = some (xs.length - 1) := by
    unfold ixN
    rw [if_neg (by decide), if_pos (by omega)]
    congr 1
    omega
  unfold atI
  rw [e]
  exact h
end PB
namespace PB
open PySem PySem.Spec L2
open PyProof.Rows hiding St
def rw2 (p : Int × Int) : List Int := [p.1, p.2]
section
variable {σ : St} {H : Hp} {Q : VK} {K : PySem.W.Frag} {tt : TT} {te : TE} {vs : List Nat} {j l : Nat}
/-- pairs, those that are kept, what is made of each -/
theorem c_rw2 {k : Sk} {a : Addr} {us : List V} {ps : List (Int × Int)} (h : k.at K H a us) (hr : Rws K H us (ps.map rw2)) (p : Int × Int → Bool) (f : Int × Int → Int) (hn : us.length < 16000000) (hw : ∀ x y, wipe (((wipe σ vs).set j (some x)).set l (some y)) vs = wipe σ vs)
    (turn : ∀ z H1 (q : VK) (N : Hp → Prop), z ∈ ps → Ex H H1 → (∀ H4, p z = true → Ex H1 H4 → q (.int (f z)) H4) → (∀ H3, p z = false → Ex H1 H3 → N H3) →
      tt (((wipe σ vs).set j (some (.int z.1))).set l (some (.int z.2))) H1 fun b H4 => if b = true then te (((wipe σ vs).set j (some (.int z.1))).set l (some (.int z.2))) H4 q else N H4)
    (done : ∀ L H', H L = none → Ex H H' → H' L = some (.lst (((ps.filter p).map f).map V.int)) → Q (.ref L) H') : sQ K (CQ (gTup K 2 (gCons (gName j) (gCons (gName l) gNil))) tt te vs σ Q) (.ref a) H := by
  have hl : us.length = ps.length := by rw [hr.length, List.length_map]
  refine s_S h (c_it walk_S hn (fun H' e => k.ex e h) (fun i acc _ => acc = ((((ps.take i).filter p).map f).map V.int)) (fun _ _ => rfl) (fun _ _ _ _ _ _ _ _ e => e) ?_ ?_)
  · rintro i x acc H1 H2 q N hi e1 e2 ⟨rfl, hx⟩ hq hN
    obtain ⟨r, h1, h2⟩ := hr.get hx
    rw [List.getElem?_map, Option.map_eq_some_iff] at h1
    obtain ⟨z, hz, rfl⟩ := h1
    obtain ⟨t, rfl, ht⟩ := h2.ex e1
    have hz' : i < ps.length := by omega
    have tk : ps.take (i + 1) = ps.take i ++ [z] := by
      rw [List.take_succ, hz]; rfl
    refine r_gtup ht rfl (r_gcons (r_gname (r_gcons (r_gname (r_gnil ?_)))))
    refine ⟨hw _ _, turn z H2 q N (List.mem_of_getElem? hz) e1 (fun H4 c e4 => hq _ H4 e4 ?_) fun H3 c e3 => hN H3 e3 ?_⟩
    · rw [tk, List.filter_append, List.filter_cons_of_pos c, List.filter_nil, List.map_append, List.map_append, e2]; rfl
    · rw [tk, List.filter_append, List.filter_cons_of_neg (by rw [c]; decide), List.filter_nil, List.append_nil, e2]
  · intro L acc H' h1 h2 h3 _ h5
    rw [h5, hl, List.take_length] at h3
    exact done L H' h1 h2 h3
end
section
variable {K : PySem.W.Frag} {H : Hp} {Q : VK} {a b : Addr} {vs ws : List V} {rs : List (List Int)}
theorem canLay_RT (rs : List (List Int)) : PyData.canLay0 (.tuple (rs.map fun r => .tuple (dI r))) = true := by
  simp only [PyData.canLay0]
  exact lay_R rs
theorem dep_RT (rs : List (List Int)) : PyData.depth (.tuple (rs.map fun r => .tuple (dI r))) ≤ 2 := by
  simp only [PyData.depth]
  have := dep_R rs
  omega
theorem sh_RT (rs : List (List Int)) : SeqAt.shaped (.tuple (rs.map fun r => .tuple (dI r))) = true := sh_of (canLay_RT rs) (by have := dep_RT rs; omega)
/-- alike tuples of rows -/
theorem r_neTR (h1 : SqT K H a vs) (h2 : SqT K H b ws) (r1 : Rws K H vs rs) (r2 : Rws K H ws rs) (q : Q (.bl false) H) : rNeA K (.ref a) (.ref b) H Q :=
  .inr ⟨_, _, .tup h1 r1.dp, .tup h2 r2.dp, sh_RT rs, sh_RT rs, by rw [eqv_refl _ (canLay_RT rs)]; exact q⟩
theorem r_maxL {ns : List Int} (h : SqL K H a (ns.map V.int)) (n : 0 < ns.length) (q : ∀ m, m ∈ ns → (∀ y, y ∈ ns → y ≤ m) → Q (.int m) H) : rMax K [.ref a] H Q := ⟨a, ns, rfl, h, n, q⟩
theorem r_told {T : List (Addr × Str)} {CS : Addr} {f w1 w2 : Str} {t : XK → TE} {σ : St} (hT : LamX.Tabs T H) (h : ∀ H1, ExN H H1 → LamX.Tabs T H1 →
    t (fun cls d H' => cls = .ref CS ∧ ∃ dd v, d = some dd ∧ H' dd = some (.xd [(f, v)]) ∧ [V.str w2, v].length ≤ sizeLine ∧ ∀ p, H' p = none → Q (.ref p) (upd H' p (.tup [.str w2, v]))) σ H1
      fun v H' => [V.str w1, v].length ≤ sizeLine ∧ ∀ p, H' p = none → Q (.ref p) (upd H' p (.tup [.str w1, v]))) : LamX.tLam T (TTtold CS f w1 w2) t σ H Q := ⟨hT, fun H1 e1 e2 => h H1 e1 e2⟩
end
end PB

/-! PS: what a walk knows of the heap, in two facts: what never changes stays (Le), what may change is told in one row (Wd). -/
namespace PB
open PySem PySem.Spec L2
open PyProof.Rows hiding St
def imm : HO → Bool
  | .tup _ | .ext _ | .rng _ _ | .met _ _ => true
  | _ => false
def mutO : HO → Bool
  | .lst _ | .dK _ | .dT _ | .set _ _ | .ins _ _ _ | .frz _ _ | .xd _ | .own _ => true
  | _ => false
/-- what never changes stays -/
structure Le (H H' : Hp) : Prop where
  le : ∀ a o, H a = some o → imm o = true → H' a = some o
theorem Le.refl (H : Hp) : Le H H := ⟨fun _ _ h _ => h⟩
theorem Le.trans {A B C : Hp} (x : Le A B) (y : Le B C) : Le A C := ⟨fun a o h i => y.le a o (x.le a o h i) i⟩
theorem Le.ex {H H' : Hp} (e : Ex H H') : Le H H' := ⟨fun a o h _ => e a o h⟩
theorem Le.exn {H H' : Hp} (e : ExN H H') : Le H H' := ⟨fun a o h i => e a o h fun ps z => by rw [z] at i; cases i⟩
/-- a tuple at a -/
structure Tu (H : Hp) (a : Addr) (xs : List V) : Prop where
  at' : H a = some (.tup xs)
theorem Tu.le {H H' : Hp} {a : Addr} {xs : List V} (h : Tu H a xs) (l : Le H H') : Tu H' a xs := ⟨l.le _ _ h.at' rfl⟩
theorem Tu.sq {K : PySem.W.Frag} {H : Hp} {a : Addr} {xs : List V} (h : Tu H a xs) : SqT K H a xs := sqT_of h.at'
abbrev En := Addr × (HO → Prop)
/-- the tables are right, and the things of L are there, each by itself -/
structure Wd (T : List (Addr × Str)) (H : Hp) (L : List En) : Prop where
  tabs : LamX.Tabs T H
  nd : (L.map Prod.fst).Nodup
  at' : ∀ p ∈ L, ∃ o, H p.1 = some o ∧ p.2 o ∧ mutO o = true
def isL (xs : List V) : HO → Prop := fun o => o = .lst xs
def isI (C : Addr) (fs : List (Str × V)) : HO → Prop := fun o => ∃ dx, o = .ins C dx fs
def isF (xs : List V) : HO → Prop := fun o => o = .lst xs ∨ ∃ ob, o = .frz ob (.lst xs)
def isDice (n : Nat) : HO → Prop := fun o => ∃ x y z : Int, o = .lst ([x, y, z].map V.int) ∧ 0 ≤ x ∧ 0 ≤ y ∧ y < 2147480009 ∧ 0 ≤ z ∧ z ≤ n
structure Sel (x : En) (L R : List En) : Prop where
  pm : L.Perm (x :: R)
theorem Sel.head {x : En} {L : List En} : Sel x (x :: L) L := ⟨.refl _⟩
theorem Sel.tail {x y : En} {L R : List En} (h : Sel x L R) : Sel x (y :: L) (y :: R) := ⟨(List.Perm.cons y h.pm).trans (.swap x y R)⟩
section
variable {T : List (Addr × Str)} {H H' : Hp} {L L' F R : List En} {a b d p : Addr} {φ ψ χ : HO → Prop} {K : PySem.W.Frag} {xs : List V} {Q : VK}
theorem Wd.perm (w : Wd T H L) (h : L.Perm L') : Wd T H L' := ⟨w.tabs, (h.map _).nodup_iff.mp w.nd, fun q hq => w.at' q (h.mem_iff.mpr hq)⟩
theorem Wd.sel (w : Wd T H L) {x : En} (s : Sel x L R) : Wd T H (x :: R) := w.perm s.pm
theorem Wd.sub (w : Wd T H L) (h : R.Sublist L) : Wd T H R := ⟨w.tabs, w.nd.sublist (h.map _), fun q hq => w.at' q (h.subset hq)⟩
theorem Wd.tail {x : En} (w : Wd T H (x :: L)) : Wd T H L := w.sub (List.sublist_cons_self _ _)
theorem Wd.get (w : Wd T H L) (s : Sel (a, φ) L R) : ∃ o, H a = some o ∧ φ o ∧ mutO o = true := w.at' (a, φ) (s.pm.mem_iff.mpr List.mem_cons_self)
theorem Wd.lst (w : Wd T H L) (s : Sel (a, isL xs) L R) : H a = some (.lst xs) := by
  obtain ⟨o, h, rfl, _⟩ := w.get s
  exact h
theorem Wd.sqL (w : Wd T H L) (s : Sel (a, isL xs) L R) : SqL K H a xs := sqL_of (w.lst s)
theorem Wd.sqF (w : Wd T H L) (s : Sel (a, isF xs) L R) : SqL K H a xs := by
  obtain ⟨o, h, h2 | ⟨ob, h2⟩, _⟩ := w.get s
  · rw [h2] at h
    exact sqL_of h
  · rw [h2] at h
    exact .inl (.inr ⟨ob, h⟩)
theorem Wd.ins {C : Addr} {fs : List (Str × V)} (w : Wd T H L) (s : Sel (a, isI C fs) L R) : ∃ dx, H a = some (.ins C dx fs) := by
  obtain ⟨o, h, ⟨dx, rfl⟩, _⟩ := w.get s
  exact ⟨dx, h⟩
theorem Wd.dice {n : Nat} (w : Wd T H L) (s : Sel (d, isDice n) L R) : Dice n H d := by
  obtain ⟨o, h, ⟨x, y, z, e, r⟩, _⟩ := w.get s
  exact ⟨x, y, z, e ▸ h, r⟩
theorem isDice.of {n : Nat} (h : Dice n H d) : ∃ o, H d = some o ∧ isDice n o ∧ mutO o = true := by
  obtain ⟨x, y, z, h, r⟩ := h
  exact ⟨_, h, ⟨x, y, z, rfl, r⟩, rfl⟩
theorem isDice.mono {m n : Nat} (h : m ≤ n) {o : HO} (k : isDice m o) : isDice n o := by
  obtain ⟨x, y, z, e, a, b, c, d, k⟩ := k
  exact ⟨x, y, z, e, a, b, c, d, by omega⟩
theorem Wd.weak (w : Wd T H ((a, φ) :: L)) (h : ∀ o, φ o → ψ o) : Wd T H ((a, ψ) :: L) := by
  refine ⟨w.tabs, w.nd, fun q hq => ?_⟩
  rcases List.mem_cons.mp hq with rfl | hq
  · obtain ⟨o, h1, h2, h3⟩ := w.at' (a, φ) List.mem_cons_self
    exact ⟨o, h1, h _ h2, h3⟩
  · exact w.at' q (List.mem_cons_of_mem _ hq)
theorem Wd.ex (w : Wd T H L) (e : Ex H H') : Wd T H' L := ⟨w.tabs.ext e, w.nd, fun q hq => by
  obtain ⟨o, h1, h2⟩ := w.at' q hq
  exact ⟨o, e _ _ h1, h2⟩⟩
theorem Wd.exn (w : Wd T H L) (e : ExN H H') (t : LamX.Tabs T H') : Wd T H' L := ⟨t, w.nd, fun q hq => by
  obtain ⟨o, h1, h2, h3⟩ := w.at' q hq
  exact ⟨o, e _ _ h1 (fun ps z => by rw [z] at h3; cases h3), h2, h3⟩⟩
theorem immut {o : HO} (i : imm o = true) (m : mutO o = true) : False := by
  cases o <;> first | exact Bool.noConfusion (show false = true from i) | exact Bool.noConfusion (show false = true from m)
/-- nothing changes but what stands in ds -/
theorem Wd.le (w : Wd T H L) (e : EO (L.map Prod.fst) H H') : Le H H' := ⟨fun a o h i => by
  by_cases c : a ∈ L.map Prod.fst
  · obtain ⟨q, hq, rfl⟩ := List.mem_map.mp c
    obtain ⟨u, h1, _, h3⟩ := w.at' q hq
    rw [h1] at h
    cases h
    exact (immut i h3).elim
  · exact e a o c h fun ps z => by rw [z] at i; cases i⟩
theorem Wd.tab (w : Wd T H L) (e : EB (L.map Prod.fst) H H') : LamX.Tabs T H' := by
  have key : ∀ (x : Addr) (o : HO), H x = some o → mutO o = false → H' x = some o := fun x o hx hm => e x o (fun c => by
    obtain ⟨q, hq, rfl⟩ := List.mem_map.mp c
    obtain ⟨u, h1, _, h3⟩ := w.at' q hq
    rw [h1] at hx
    cases hx
    rw [hm] at h3
    cases h3) hx
  intro q hq
  obtain ⟨ps, h1, h2, h3⟩ := w.tabs q hq
  refine ⟨ps, key _ _ h1 rfl, h2, fun pos cv hc => ?_⟩
  obtain ⟨c, e1, e2⟩ := h3 pos cv hc
  exact ⟨c, e1, key _ _ e2 rfl⟩
/-- one thing changes -/
theorem Wd.eo1 (w : Wd T H ((d, φ) :: F)) (e : EO [d] H H') (t : LamX.Tabs T H') (h : ∃ o, H' d = some o ∧ ψ o ∧ mutO o = true) : Wd T H' ((d, ψ) :: F) := by
  refine ⟨t, w.nd, fun q hq => ?_⟩
  rcases List.mem_cons.mp hq with rfl | hq
  · exact h
  · obtain ⟨o, h1, h2, h3⟩ := w.at' q (List.mem_cons_of_mem _ hq)
    have n : q.1 ∉ [d] := fun z => (List.nodup_cons.mp w.nd).1 (by
      have z := List.mem_singleton.mp z
      show d ∈ _
      rw [← z]
      exact List.mem_map_of_mem hq)
    exact ⟨o, e _ _ n h1 (fun ps z => by rw [z] at h3; cases h3), h2, h3⟩
theorem Le.eo1 (w : Wd T H ((d, φ) :: F)) (e : EO [d] H H') : Le H H' :=
  (w.sub (R := [(d, φ)]) (List.Sublist.cons₂ _ (List.nil_sublist _))).le e
theorem Wd.eb1 (w : Wd T H ((d, φ) :: F)) (e : EB [d] H H') (h : ∃ o, H' d = some o ∧ ψ o ∧ mutO o = true) : Wd T H' ((d, ψ) :: F) :=
  w.eo1 e.eo ((w.sub (R := [(d, φ)]) (List.Sublist.cons₂ _ (List.nil_sublist _))).tab e) h
theorem Wd.eo2 (w : Wd T H ((a, φ) :: (b, ψ) :: F)) (e : EO [a, b] H H') (t : LamX.Tabs T H') (h : ∃ o, H' a = some o ∧ χ o ∧ mutO o = true) {ω : HO → Prop} (k : ∃ o, H' b = some o ∧ ω o ∧ mutO o = true) : Wd T H' ((a, χ) :: (b, ω) :: F) := by
  refine ⟨t, w.nd, fun q hq => ?_⟩
  rcases List.mem_cons.mp hq with rfl | hq
  · exact h
  rcases List.mem_cons.mp hq with rfl | hq
  · exact k
  · obtain ⟨o, h1, h2, h3⟩ := w.at' q (List.mem_cons_of_mem _ (List.mem_cons_of_mem _ hq))
    have nd := List.nodup_cons.mp w.nd
    have n : q.1 ∉ [a, b] := fun z => by
      rcases List.mem_cons.mp z with z | z
      · exact nd.1 (by show a ∈ _; rw [← z]; exact List.mem_cons_of_mem _ (List.mem_map_of_mem hq))
      · have z := List.mem_singleton.mp z
        exact (List.nodup_cons.mp nd.2).1 (by show b ∈ _; rw [← z]; exact List.mem_map_of_mem hq)
    exact ⟨o, e _ _ n h1 (fun ps z => by rw [z] at h3; cases h3), h2, h3⟩
theorem two_sub : List.Sublist [(a, φ), (b, ψ)] ((a, φ) :: (b, ψ) :: F) := List.Sublist.cons₂ _ (List.Sublist.cons₂ _ (List.nil_sublist _))
theorem Le.eo2 (w : Wd T H ((a, φ) :: (b, ψ) :: F)) (e : EO [a, b] H H') : Le H H' := (w.sub (R := [(a, φ), (b, ψ)]) two_sub).le e
theorem Wd.eb2 (w : Wd T H ((a, φ) :: (b, ψ) :: F)) (e : EB [a, b] H H') (h : ∃ o, H' a = some o ∧ χ o ∧ mutO o = true) {ω : HO → Prop} (k : ∃ o, H' b = some o ∧ ω o ∧ mutO o = true) : Wd T H' ((a, χ) :: (b, ω) :: F) :=
  w.eo2 e.eo ((w.sub (R := [(a, φ), (b, ψ)]) two_sub).tab e) h k
theorem Wd.new {o : HO} (w : Wd T H L) (hp : H p = none) (m : mutO o = true) (h : φ o) : Wd T (upd H p o) ((p, φ) :: L) := by
  have w' := w.ex (Ex.new (o := o) hp)
  refine ⟨w'.tabs, List.nodup_cons.mpr ⟨fun c => ?_, w.nd⟩, fun q hq => ?_⟩
  · obtain ⟨q, hq, e⟩ := List.mem_map.mp c
    obtain ⟨u, h1, _⟩ := w.at' q hq
    rw [e, hp] at h1
    cases h1
  · rcases List.mem_cons.mp hq with rfl | hq
    · exact ⟨o, upd_same, h, m⟩
    · exact w'.at' q hq
theorem Wd.put {o : HO} (w : Wd T H ((d, φ) :: F)) (m : mutO o = true) (h : ψ o) : Wd T (upd H d o) ((d, ψ) :: F) := w.eb1 (EB.put List.mem_cons_self) ⟨o, upd_same, h, m⟩
theorem Wd.put_le {o : HO} (w : Wd T H ((d, φ) :: F)) : Le H (upd H d o) := Le.eo1 w (EB.put List.mem_cons_self).eo
theorem Wd.ne (w : Wd T H ((a, φ) :: (b, ψ) :: F)) : a ≠ b := fun z => (List.nodup_cons.mp w.nd).1 (by rw [z]; exact List.mem_cons_self)
theorem Wd.free (w : Wd T H L) (s : Sel (a, φ) L R) (hp : H p = none) : a ≠ p := fun z => by
  obtain ⟨o, h, _⟩ := w.get s
  rw [z, hp] at h
  cases h
end
/-! ### data that stays -/
mutual
inductive Pd (H : Hp) : V → PyData → Prop
  | non : Pd H .non .none
  | bl (b : Bool) : Pd H (.bl b) (.bool b)
  | int (i : Int) : Pd H (.int i) (.int i)
  | str (x : Str) : Pd H (.str x) (.str x)
  | tup {a : Addr} {xs : List V} {ds : List PyData} : Tu H a xs → PdA H xs ds → Pd H (.ref a) (.tuple ds)
inductive PdA (H : Hp) : List V → List PyData → Prop
  | nil : PdA H [] []
  | cons {v : V} {vs : List V} {d : PyData} {ds : List PyData} : Pd H v d → PdA H vs ds → PdA H (v :: vs) (d :: ds)
end
mutual
theorem Pd.le {H H' : Hp} : ∀ {p : PyData} {v : V}, Pd H v p → Le H H' → Pd H' v p
  | .none, _, .non, _ => .non
  | .bool _, _, .bl b, _ => .bl b
  | .int _, _, .int i, _ => .int i
  | .str _, _, .str x, _ => .str x
  | .tuple _, _, .tup h k, l => .tup (h.le l) (k.le l)
theorem PdA.le {H H' : Hp} : ∀ {ds : List PyData} {vs : List V}, PdA H vs ds → Le H H' → PdA H' vs ds
  | [], _, .nil, _ => .nil
  | _ :: _, _, .cons h k, l => .cons (h.le l) (k.le l)
end
mutual
theorem Pd.dp {K : PySem.W.Frag} {H : Hp} : ∀ {p : PyData} {v : V}, Pd H v p → Dp K H v p
  | .none, _, .non => .non
  | .bool _, _, .bl b => .bl b
  | .int _, _, .int i => .int i
  | .str _, _, .str x => .str x
  | .tuple _, _, .tup h k => .tup h.sq k.dp
theorem PdA.dp {K : PySem.W.Frag} {H : Hp} : ∀ {ds : List PyData} {vs : List V}, PdA H vs ds → DpAll K H vs ds
  | [], _, .nil => .nil
  | _ :: _, _, .cons h k => .cons h.dp k.dp
end
section
variable {H : Hp} {vs ws : List V} {ds es : List PyData} {v : V} {p : PyData}
theorem PdA.length (h : PdA H vs ds) : vs.length = ds.length := DpA.length (K := default) h.dp
theorem PdA.append : ∀ {vs : List V} {ds : List PyData}, PdA H vs ds → PdA H ws es → PdA H (vs ++ ws) (ds ++ es)
  | _, _, .nil, k => k
  | _, _, .cons h t, k => .cons h (t.append k)
theorem PdA.snoc (h : PdA H vs ds) (k : Pd H v p) : PdA H (vs ++ [v]) (ds ++ [p]) := h.append (.cons k .nil)
theorem PdA.get : ∀ {vs : List V} {ds : List PyData}, PdA H vs ds → ∀ {i : Nat} {v : V}, vs[i]? = some v → ∃ p, ds[i]? = some p ∧ Pd H v p
  | _, _, .nil, i, v, e => by simp at e
  | _, _, .cons h k, 0, v, e => by
    simp only [List.getElem?_cons_zero, Option.some.injEq] at e ⊢
    exact ⟨_, rfl, e ▸ h⟩
  | _, _, .cons h k, i + 1, v, e => by
    simp only [List.getElem?_cons_succ] at e ⊢
    exact k.get e
theorem PdA.at : ∀ {vs : List V} {ds : List PyData}, PdA H vs ds → ∀ {i : Nat} {p : PyData}, ds[i]? = some p → ∃ v, vs[i]? = some v ∧ Pd H v p
  | _, _, .nil, i, v, e => by simp at e
  | _, _, .cons h k, 0, v, e => by
    simp only [List.getElem?_cons_zero, Option.some.injEq] at e ⊢
    exact ⟨_, rfl, e ▸ h⟩
  | _, _, .cons h k, i + 1, v, e => by
    simp only [List.getElem?_cons_succ] at e ⊢
    exact k.at e
theorem PdA.drop : ∀ {vs : List V} {ds : List PyData} (n : Nat), PdA H vs ds → PdA H (vs.drop n) (ds.drop n)
  | _, _, 0, h => h
  | _, _, _ + 1, .nil => .nil
  | _, _, n + 1, .cons _ k => k.drop n
theorem PdA.take : ∀ {vs : List V} {ds : List PyData} (n : Nat), PdA H vs ds → PdA H (vs.take n) (ds.take n)
  | _, _, 0, h => .nil
  | _, _, _ + 1, .nil => .nil
  | _, _, n + 1, .cons h k => .cons h (k.take n)
theorem PdA.mem (h : PdA H vs ds) (m : v ∈ vs) : ∃ p, p ∈ ds ∧ Pd H v p := by
  obtain ⟨i, e⟩ := List.getElem?_of_mem m
  obtain ⟨p, e1, e2⟩ := h.get e
  exact ⟨p, List.mem_of_getElem? e1, e2⟩
theorem Pd.isTy {K : PySem.W.Frag} (h : Pd H v p) : IsTy K H v (tyD p) := Dp.ty h.dp
theorem pd_ints : ∀ ns : List Int, PdA H (ns.map V.int) (dI ns)
  | [] => .nil
  | n :: ns => .cons (.int n) (pd_ints ns)
theorem Pd.tu (h : Pd H (.ref a) (.tuple ds)) : ∃ us, Tu H a us ∧ PdA H us ds := by
  cases h with
  | tup h k => exact ⟨_, h, k⟩
theorem Pd.tupV (h : Pd H v (.tuple ds)) : ∃ a us, v = .ref a ∧ Tu H a us ∧ PdA H us ds := by
  cases h with
  | tup h k => exact ⟨_, _, rfl, h, k⟩
theorem Pd.intV {i : Int} (h : Pd H v (.int i)) : v = .int i := by cases h; rfl
theorem Pd.strV {x : Str} (h : Pd H v (.str x)) : v = .str x := by cases h; rfl
theorem Pd.blV {b : Bool} (h : Pd H v (.bool b)) : v = .bl b := by cases h; rfl
end
/-! ### readings -/
section
variable {T : List (Addr × Str)} {H : Hp} {L F R : List En} {a b d : Addr} {φ ψ : HO → Prop} {K : PySem.W.Frag} {xs ys : List V} {Q : VK} {σ : St}
/-- the tail of a reading that makes a new thing -/
theorem n_newT {N : Addr → Hp → Prop} (w : Wd T H L) (q : ∀ p H', Le H H' → Wd T H' L → Tu H' p xs → N p H') : ∀ p, H p = none → N p (upd H p (.tup xs)) :=
  fun p hp => q p _ (Le.ex (Ex.new hp)) (w.ex (Ex.new hp)) ⟨upd_same⟩
theorem n_newL {N : Addr → Hp → Prop} (w : Wd T H L) (q : ∀ p H', Le H H' → Wd T H' ((p, isL xs) :: L) → N p H') : ∀ p, H p = none → N p (upd H p (.lst xs)) :=
  fun p hp => q p _ (Le.ex (Ex.new hp)) (w.new hp rfl rfl)
/-- a new tuple, list, object; a field set: what is left to ask -/
def NT (xs : List V) (H : Hp) (Q : VK) : Prop := xs.length ≤ sizeLine ∧ ∀ p, H p = none → Q (.ref p) (upd H p (.tup xs))
def NL (xs : List V) (H : Hp) (Q : VK) : Prop := xs.length ≤ sizeLine ∧ ∀ p, H p = none → Q (.ref p) (upd H p (.lst xs))
def NM (C : Addr) (sp : Sp) (vs : List V) (H : Hp) (Q : VK) (E : XK) : Prop := ∀ x dx, H x = none → H dx = none → dx ≠ x → sp (.ref x :: vs) (upd (upd H dx (.own x)) x (.ins C dx [])) (fun v H2 => v = .non ∧ Q (.ref x) H2) E
def NF (K : PySem.W.Frag) (x : V) (f : Str) (y : V) (H : Hp) (N : Hp → Prop) : Prop := ∃ a C dx fs, x = .ref a ∧ H a = some (.ins C dx fs) ∧ Cls K C ∧ NoAttr K C f ∧ fs.length < 1000 ∧ N (upd H a (.ins C dx (putF f y fs)))
theorem r_tupN {tr : TA} (h : tr σ H fun xs H1 => NT xs H1 Q) : tTup tr σ H Q := h
theorem r_lstN {tr : TA} (h : tr σ H fun xs H1 => NL xs H1 Q) : tLst tr σ H Q := h
theorem r_makeN {C : Addr} {sp : Sp} {E : XK} {t : TA} (h : t σ H fun vs H1 => NM C sp vs H1 Q E) : tMake C sp [] E t σ H Q := r_make h
def NMK (C : Addr) (sp : Sp) (args : Addr → List V) (H : Hp) (Q : VK) (E : XK) : Prop := ∀ x dx, H x = none → H dx = none → dx ≠ x → sp (args x) (upd (upd H dx (.own x)) x (.ins C dx [])) (fun v H2 => v = .non ∧ Q (.ref x) H2) E
theorem r_makeKN {C : Addr} {sp : Sp} {gV : List V → List V → List V} {E : XK} {t tk : TA} {n : Nat} (h : t σ H fun vs H1 => tk σ H1 fun zs H2 => vs.length = 0 ∧ zs.length = n ∧ NMK C sp (fun x => gV (.ref x :: vs) zs) H2 Q E) : tMakeK C 0 n sp gV E t tk σ H Q := r_makeK h
theorem n_kw {zs : List V} {n : Nat} {R : Prop} (h : zs.length = n) (q : R) : zs.length = n ∧ R := ⟨h, q⟩
theorem n_makeK {C : Addr} {sp : Sp} {args : Addr → List V} {E : XK} (w : Wd T H L) (q : ∀ x H', Le H H' → Wd T H' ((x, isI C []) :: L) → sp (args x) H' (fun v H2 => v = .non ∧ Q (.ref x) H2) E) : NMK C sp args H Q E := by
  intro x dx hx hdx ne
  have hx' : upd H dx (.own x) x = none := (upd_ne ne.symm).trans hx
  exact q x _ (Le.ex ((Ex.new hdx).trans (Ex.new hx'))) ((w.ex (Ex.new hdx)).new hx' rfl ⟨dx, rfl⟩)
theorem r_sfldN {ta tv : TE} {f : Str} {D : Ends} (h : tv σ H fun y H1 => ta σ H1 fun x H2 => NF K x f y H2 (fun H' => D.nx σ H')) : sFld K ta tv f D σ H := h
theorem n_tup (w : Wd T H L) (hl : Nat.ble xs.length sizeLine = true) (q : ∀ p H', Le H H' → Wd T H' L → Tu H' p xs → Q (.ref p) H') : NT xs H Q :=
  ⟨Nat.le_of_ble_eq_true hl, n_newT (N := fun p H2 => Q (.ref p) H2) w q⟩
theorem n_lst (w : Wd T H L) (hl : Nat.ble xs.length sizeLine = true) (q : ∀ p H', Le H H' → Wd T H' ((p, isL xs) :: L) → Q (.ref p) H') : NL xs H Q :=
  ⟨Nat.le_of_ble_eq_true hl, n_newL (N := fun p H2 => Q (.ref p) H2) w q⟩
/-- tuple(a list) -/
theorem n_tupL (w : Wd T H L) (s : Sel (a, isL xs) L R) (q : ∀ p H', Le H H' → Wd T H' L → Tu H' p xs → Q (.ref p) H') : rTupA K [V.ref a] H Q := r_tupL (w.sqL s) (n_newT (N := fun p H2 => Q (.ref p) H2) w q)
theorem n_tupT (h : Tu H a xs) (q : Q (.ref a) H) : rTupA K [V.ref a] H Q := r_tupT h.sq q
theorem n_listL (w : Wd T H L) (s : Sel (a, isL xs) L R) (q : ∀ p H', Le H H' → Wd T H' ((p, isL xs) :: L) → Q (.ref p) H') : rListA K [V.ref a] H Q := r_listL (w.sqL s) (n_newL (N := fun p H2 => Q (.ref p) H2) w q)
theorem n_listT (w : Wd T H L) (h : Tu H a xs) (q : ∀ p H', Le H H' → Wd T H' ((p, isL xs) :: L) → Q (.ref p) H') : rListA K [V.ref a] H Q := r_listT h.sq (n_newL (N := fun p H2 => Q (.ref p) H2) w q)
theorem n_slL {lo hi : Option Int} (w : Wd T H L) (s : Sel (a, isL xs) L R) (q : ∀ p H', Le H H' → Wd T H' ((p, isL (cutV xs lo hi)) :: L) → Q (.ref p) H') : rSlcA K (.ref a) lo hi H Q := r_slL (w.sqL s) (n_newL (N := fun p H2 => Q (.ref p) H2) w q)
theorem n_catL (w : Wd T H L) (s : Sel (a, isL xs) L R) (t : Sel (b, isL ys) L F) (n : xs.length + ys.length ≤ sizeLine) (q : ∀ p H', Le H H' → Wd T H' ((p, isL (xs ++ ys)) :: L) → Q (.ref p) H') : rAddA K (.ref a) (.ref b) H Q :=
  r_catL (w.lst s) (w.lst t) n (n_newL (N := fun p H2 => Q (.ref p) H2) w q)
theorem n_catI {ns ms : List Int} (w : Wd T H L) (s : Sel (a, isL xs) L R) (t : Sel (b, isL ys) L F) (e1 : xs = ns.map V.int) (e2 : ys = ms.map V.int) (n : ns.length + ms.length ≤ 1000000) (q : ∀ p H', Le H H' → Wd T H' ((p, isL ((ns ++ ms).map V.int)) :: L) → Q (.ref p) H') : rAddA K (.ref a) (.ref b) H Q :=
  n_catL w s t (by rw [e1, e2, List.length_map, List.length_map]; exact Nat.le_trans n (by decide)) fun p H' l w => q p H' l (by rw [List.map_append, ← e1, ← e2]; exact w)
theorem n_eqB {x y : Bool} (q : Q (.bl (decide (x = y))) H) : rEqA K (.bl x) (.bl y) H Q := .inl ⟨rfl, by
  rw [show decide (V.bl x = V.bl y) = decide (x = y) by cases x <;> cases y <;> rfl]
  exact q⟩
theorem n_ixL {i : Int} {v : V} (w : Wd T H L) (s : Sel (a, isL xs) L R) (e : atI xs i = some v) (q : Q v H) : rIxA K (.ref a) (.int i) H Q := r_ixL (w.sqL s) e q
theorem n_ixT {i : Int} {v : V} (h : Tu H a xs) (e : atI xs i = some v) (q : Q v H) : rIxA K (.ref a) (.int i) H Q := r_ixT h.sq e q
theorem n_lenL (w : Wd T H L) (s : Sel (a, isL xs) L R) (q : Q (.int xs.length) H) : rLenA K [V.ref a] H Q := r_lenL (w.sqL s) q
theorem n_lenT (h : Tu H a xs) (q : Q (.int xs.length) H) : rLenA K [V.ref a] H Q := r_lenT h.sq q
theorem n_tyL {R' : Prop} (w : Wd T H L) (s : Sel (a, isL xs) L R) (q : R') : tyV K "list" (.ref a) H ∧ R' := ⟨.inl ⟨rfl, _, w.sqL s⟩, q⟩
theorem n_app {v : V} (w : Wd T H L) (s : Sel (a, isL xs) L R) (n : xs.length < sizeLine) (q : ∀ H', Le H H' → Wd T H' ((a, isL (xs ++ [v])) :: R) → Q .non H') : rAppend (.ref a) [v] H Q :=
  r_app (w.lst s) n (q _ (w.sel s).put_le ((w.sel s).put rfl rfl))
theorem n_appI {n : Int} {ns : List Int} (w : Wd T H L) (s : Sel (a, isL (ns.map V.int)) L R) (l : ns.length < 1000000) (q : ∀ H', Le H H' → Wd T H' ((a, isL ((ns ++ [n]).map V.int)) :: R) → Q .non H') : rAppend (.ref a) [.int n] H Q :=
  n_app w s (by rw [List.length_map]; exact Nat.lt_of_lt_of_le l (by decide)) fun H' l w => q H' l (by rw [List.map_append]; exact w)
theorem n_lenI {ns : List Int} (w : Wd T H L) (s : Sel (a, isL (ns.map V.int)) L R) (q : Q (.int ns.length) H) : rLenA K [V.ref a] H Q := r_lenLI (w.sqL s) q
theorem n_ixI {ns : List Int} {i : Nat} {n : Int} (w : Wd T H L) (s : Sel (a, isL (ns.map V.int)) L R) (e : ns[i]? = some n) (q : Q (.int n) H) : rIxA K (.ref a) (.int (i : Nat)) H Q := r_ixLI (w.sqL s) e q
theorem n_setL {i : Nat} {v : V} {Q : Hp → Prop} (w : Wd T H L) (s : Sel (a, isL xs) L R) (n : i < xs.length) (q : ∀ H', Le H H' → Wd T H' ((a, isL (xs.set i v)) :: R) → Q H') : rSetL (.ref a) (.int (i : Nat)) v H Q :=
  r_setL (w.lst s) n (q _ (w.sel s).put_le ((w.sel s).put rfl rfl))
/-- a field read, a field set -/
theorem n_fld {f : Str} {C : Addr} {fs : List (Str × V)} {v : V} {R' : V → Prop} (w : Wd T H L) (s : Sel (a, isI C fs) L R) (cl : Cls K C) (na : NoAttr K C f) (hf : fs.lookup f = some v) (q : R' v) :
    ∃ a' D dx fs v, V.ref a = .ref a' ∧ H a' = some (.ins D dx fs) ∧ Cls K D ∧ NoAttr K D f ∧ fs.lookup f = some v ∧ R' v := by
  obtain ⟨dx, h⟩ := w.ins s
  exact ⟨a, C, dx, fs, v, rfl, h, cl, na, hf, q⟩
theorem n_sfld {f : Str} {C : Addr} {fs : List (Str × V)} {v : V} {N : Hp → Prop} (w : Wd T H L) (s : Sel (a, isI C fs) L R) (cl : Cls K C) (na : NoAttr K C f) (hn : Nat.blt fs.length 1000 = true) (q : ∀ H', Le H H' → Wd T H' ((a, isI C (putF f v fs)) :: R) → N H') :
    NF K (.ref a) f v H N := by
  obtain ⟨dx, h⟩ := w.ins s
  exact ⟨a, C, dx, fs, rfl, h, cl, na, Nat.le_of_ble_eq_true hn, q _ (w.sel s).put_le ((w.sel s).put rfl ⟨dx, rfl⟩)⟩
theorem n_meth {m : Str} {C : Addr} {fs : List (Str × V)} {R' : Prop} (w : Wd T H L) (s : Sel (a, isI C fs) L R) (hf : fs.lookup m = none) (q : R') : ∃ a' dx fs, V.ref a = .ref a' ∧ H a' = some (.ins C dx fs) ∧ fs.lookup m = none ∧ R' := by
  obtain ⟨dx, h⟩ := w.ins s
  exact ⟨a, dx, fs, rfl, h, hf, q⟩
theorem n_prop {C : Addr} {fs : List (Str × V)} {R' : Addr → Prop} (w : Wd T H L) (s : Sel (a, isI C fs) L R) (q : R' a) : ∃ a' dx fs, V.ref a = .ref a' ∧ H a' = some (.ins C dx fs) ∧ R' a' := by
  obtain ⟨dx, h⟩ := w.ins s
  exact ⟨a, dx, fs, rfl, h, q⟩
/-- a new object: its __init__ is asked -/
theorem n_make {C : Addr} {sp : Sp} {vs : List V} {E : XK} (w : Wd T H L) (q : ∀ x H', Le H H' → Wd T H' ((x, isI C []) :: L) → sp (.ref x :: vs) H' (fun v H2 => v = .non ∧ Q (.ref x) H2) E) : NM C sp vs H Q E := by
  intro x dx hx hdx ne
  have hx' : upd H dx (.own x) x = none := (upd_ne ne.symm).trans hx
  exact q x _ (Le.ex ((Ex.new hdx).trans (Ex.new hx'))) ((w.ex (Ex.new hdx)).new hx' rfl ⟨dx, rfl⟩)
/-- what a refused call leaves -/
def Refuse (T : List (Addr × Str)) (L : List En) (C : Addr) (f n : Str) (H : Hp) (E : XK) : Prop := ∀ d H', Le H H' → Wd T H' L → H' d = some (.xd [(f, .str n)]) → E (.ref C) (some d) H'
theorem Refuse.le {C : Addr} {f n : Str} {E : XK} {H' : Hp} (h : Refuse T L C f n H E) (l : Le H H') : Refuse T L C f n H' E := fun d H2 l2 w a => h d H2 (l.trans l2) w a
theorem Refuse.old {C : Addr} {f n : Str} {E : XK} (w : Wd T H L) (h : Refuse T L C f n H E) : ∀ d H', H d = none → Ex H H' → H' d = some (.xd [(f, .str n)]) → E (.ref C) (some d) H' := fun d H' _ e a => h d H' (Le.ex e) (w.ex e) a
theorem n_mkQ {C : Addr} {f : Str} {R : XK} {y : V} (w : Wd T H L) (h : ∀ d H', Le H H' → Wd T H' L → H' d = some (.xd [(f, y)]) → R (.ref C) (some d) H') : mkQ C f R y H :=
  r_mkQ fun d H' _ e a => h d H' (Le.ex e) (w.ex e) a
/-- a lambda called where a refusal is caught -/
theorem n_ref {CS : Addr} {f ret : Str} {t : XK → TE} (w : Wd T H L) (h : ∀ H1, Le H H1 → Wd T H1 L → t (fun cls d H' => cls = .ref CS ∧ ∃ dd v, d = some dd ∧ H' dd = some (.xd [(f, v)]) ∧ Q v H') σ H1 fun _ H' => Q (.str ret) H') : LamX.tLam T (TTref CS f ret) t σ H Q :=
  r_ref w.tabs fun H1 e t1 => h H1 (Le.exn e) (w.exn e t1)
theorem n_told {CS : Addr} {f w1 w2 : Str} {t : XK → TE} (w : Wd T H L)
    (h : ∀ H1, Le H H1 → Wd T H1 L → t (fun cls d H' => cls = .ref CS ∧ ∃ dd v, d = some dd ∧ H' dd = some (.xd [(f, v)]) ∧ NT [V.str w2, v] H' Q) σ H1 fun v H' => NT [V.str w1, v] H' Q) :
    LamX.tLam T (TTtold CS f w1 w2) t σ H Q := r_told w.tabs fun H1 e t1 => h H1 (Le.exn e) (w.exn e t1)
theorem Refuse.caught {C : Addr} {f n : Str} {M : V → Hp → Prop} (h : ∀ H', Le H H' → Wd T H' L → M (.str n) H') : Refuse T L C f n H (fun cls d H' => cls = .ref C ∧ ∃ dd v, d = some dd ∧ H' dd = some (.xd [(f, v)]) ∧ M v H') :=
  fun d H' l w a => ⟨rfl, d, _, rfl, a, h H' l w⟩
theorem r_int1B {c : Bool} (q : Q (.int (if c then 1 else 0)) H) : rInt1A [V.bl c] H Q := .inr ⟨c, rfl, q⟩
/-- data compared -/
theorem n_eq {v u : V} {p q : PyData} (h1 : Dp K H v p) (h2 : Dp K H u q) (s1 : SeqAt.shaped p = true) (s2 : SeqAt.shaped q = true) (k : Q (.bl (PyData.eqv p q)) H) : rEqA K v u H Q := r_eqE h1 h2 s1 s2 k
theorem n_ne {v u : V} {p q : PyData} (h1 : Dp K H v p) (h2 : Dp K H u q) (s1 : SeqAt.shaped p = true) (s2 : SeqAt.shaped q = true) (k : Q (.bl (!PyData.eqv p q)) H) : rNeA K v u H Q := r_neE h1 h2 s1 s2 k
theorem n_eqT {v u : V} {p q : PyData} (h1 : Dp K H v p) (h2 : Dp K H u q) (s1 : SeqAt.shaped p = true) (s2 : SeqAt.shaped q = true) (e : PyData.eqv p q = true) (k : Q (.bl true) H) : rEqA K v u H Q := r_eqE h1 h2 s1 s2 (e ▸ k)
theorem n_eqF {v u : V} {p q : PyData} (h1 : Dp K H v p) (h2 : Dp K H u q) (s1 : SeqAt.shaped p = true) (s2 : SeqAt.shaped q = true) (e : PyData.eqv p q = false) (k : Q (.bl false) H) : rEqA K v u H Q := r_eqE h1 h2 s1 s2 (e ▸ k)
theorem n_neF {v u : V} {p q : PyData} (h1 : Dp K H v p) (h2 : Dp K H u q) (s1 : SeqAt.shaped p = true) (s2 : SeqAt.shaped q = true) (e : PyData.eqv p q = true) (k : Q (.bl false) H) : rNeA K v u H Q := r_neE h1 h2 s1 s2 (by rw [e]; exact k)
theorem n_neT {v u : V} {p q : PyData} (h1 : Dp K H v p) (h2 : Dp K H u q) (s1 : SeqAt.shaped p = true) (s2 : SeqAt.shaped q = true) (e : PyData.eqv p q = false) (k : Q (.bl true) H) : rNeA K v u H Q := r_neE h1 h2 s1 s2 (by rw [e]; exact k)
end
theorem at_2 {α : Type} {x y z : α} {xs : List α} : atI (x :: y :: z :: xs) 2 = some z := atI_nat (j := 2) rfl
theorem at_3 {α : Type} {x y z u : α} {xs : List α} : atI (x :: y :: z :: u :: xs) 3 = some u := atI_nat (j := 3) rfl
theorem Wd.fresh {T : List (Addr × Str)} {H : Hp} {L : List En} {p : Addr} (w : Wd T H L) (hp : H p = none) : p ∉ L.map Prod.fst := fun c => by
  obtain ⟨q, hq, e⟩ := List.mem_map.mp c
  obtain ⟨u, h1, _⟩ := w.at' q hq
  rw [e, hp] at h1
  cases h1
theorem Wd.cons {T : List (Addr × Str)} {H : Hp} {L : List En} {p : Addr} {φ : HO → Prop} (w : Wd T H L) (n : p ∉ L.map Prod.fst) (h : ∃ o, H p = some o ∧ φ o ∧ mutO o = true) : Wd T H ((p, φ) :: L) := by
  refine ⟨w.tabs, List.nodup_cons.mpr ⟨n, w.nd⟩, fun q hq => ?_⟩
  rcases List.mem_cons.mp hq with rfl | hq
  · exact h
  · exact w.at' q hq
theorem Wd.swap {T : List (Addr × Str)} {H : Hp} {L : List En} {x y : En} (w : Wd T H (x :: y :: L)) : Wd T H (y :: x :: L) := w.perm (.swap y x L)
/-- part of the row -/
structure Pk (L R : List En) : Prop where
  pk : ∃ G, L.Perm (G ++ R)
theorem Pk.id {L : List En} : Pk L L := ⟨[], .refl _⟩
theorem Pk.nil {L : List En} : Pk L [] := ⟨L, by rw [List.append_nil]⟩
theorem Pk.cons {x : En} {L R F : List En} (s : Sel x L R) (h : Pk R F) : Pk L (x :: F) := by
  obtain ⟨G, h⟩ := h
  exact ⟨G, (s.pm.trans (List.Perm.cons x h)).trans List.perm_middle.symm⟩
theorem Pk.drop {x : En} {L R : List En} (h : Pk L R) : Pk (x :: L) R := by
  obtain ⟨G, h⟩ := h
  exact ⟨x :: G, List.Perm.cons x h⟩
theorem Wd.pk {T : List (Addr × Str)} {H : Hp} {L R : List En} (w : Wd T H L) (h : Pk L R) : Wd T H R := by
  obtain ⟨G, h⟩ := h
  exact (w.perm h).sub (List.sublist_append_right _ _)
/-! ### comprehensions -/
section
variable {J : It} {n : Nat} {G : Hp → Prop} {Y : Nat → Hp → V → Hp → Prop} {g : TG} {tt : TT} {te : TE} {vs : List Nat} {σ : St} {Q : VK} {T : List (Addr × Str)} {H : Hp} {F : List En}
theorem c_wd (w : Walk J n G Y) (hn : n < 16000000) (w0 : Wd T H F) (Φ : Nat → List V → List En → Hp → Prop) (mono : ∀ i acc F1 H1 H2, Φ i acc F1 H1 → Le H1 H2 → Φ i acc F1 H2) (h0 : Φ 0 [] F H)
    (hG : ∀ i L us F1 H1, i ≤ n → Le H H1 → Wd T H1 ((L, isL us) :: F1) → Φ i us F1 H1 → G H1)
    (turn : ∀ i x L us F1 H1 H2 (q : VK) (N : Hp → Prop), i < n → Le H H1 → Wd T H1 ((L, isL us) :: F1) → Φ i us F1 H1 → Y i H1 x H2 →
      (∀ y F2 H4, Le H1 H4 → Wd T H4 ((L, isL us) :: F2) → Φ (i + 1) (us ++ [y]) F2 H4 → q y H4) → (∀ F2 H3, Le H1 H3 → Wd T H3 ((L, isL us) :: F2) → Φ (i + 1) us F2 H3 → N H3) →
      g x (wipe σ vs) H2 fun σ2 H3 => wipe σ2 vs = wipe σ vs ∧ tt σ2 H3 fun b H4 => if b = true then te σ2 H4 q else N H4)
    (done : ∀ L us F1 H', Le H H' → Wd T H' ((L, isL us) :: F1) → us.length ≤ n → Φ n us F1 H' → Q (.ref L) H') : CQ g tt te vs σ Q J H := by
  intro L hL
  refine lc_it w (fun i H' => ∃ us F1, Le H H' ∧ Wd T H' ((L, isL us) :: F1) ∧ us.length ≤ i ∧ Φ i us F1 H') ⟨[], F, Le.ex (Ex.new hL), w0.new hL rfl rfl, Nat.le_refl _, mono _ _ _ _ _ h0 (Le.ex (Ex.new hL))⟩ (fun i H' hi p => ?_) ?_ ?_
  · obtain ⟨us, F1, l, w1, _, f⟩ := p
    exact hG i L us F1 H' hi l w1 f
  · rintro i x H1 H2 hi ⟨us, F1, l, w1, lu, f⟩ y
    refine turn i x L us F1 H1 H2 _ _ hi l w1 f y (fun z F2 H4 l4 w4 f4 => ⟨us, w4.lst .head, ?_, us ++ [z], F2, ?_, ?_, ?_, ?_⟩) fun F2 H3 l3 w3 f3 => ⟨us, F2, l.trans l3, w3, Nat.le_succ_of_le lu, f3⟩
    · exact Nat.lt_of_le_of_lt lu (Nat.lt_of_lt_of_le hi (Nat.le_trans (Nat.le_of_lt hn) (by decide)))
    · exact (l.trans l4).trans w4.put_le
    · exact w4.put rfl rfl
    · rw [List.length_append, List.length_singleton]; omega
    · exact mono _ _ _ _ _ f4 w4.put_le
  · rintro H' ⟨us, F1, l, w1, lu, f⟩
    exact done L us F1 H' l w1 lu f
/-- elements that are known data -/
theorem c_pd (w : Walk J n G Y) (hn : n < 16000000) (w0 : Wd T H F) (Φ : Nat → List PyData → List En → Prop) (h0 : Φ 0 [] F)
    (hG : ∀ i L us ds F1 H1, i ≤ n → Le H H1 → Wd T H1 ((L, isL us) :: F1) → Φ i ds F1 → G H1)
    (turn : ∀ i x L us ds F1 H1 H2 (q : VK) (N : Hp → Prop), i < n → Le H H1 → Wd T H1 ((L, isL us) :: F1) → Φ i ds F1 → Y i H1 x H2 →
      (∀ y e F2 H4, Le H1 H4 → Wd T H4 ((L, isL us) :: F2) → Pd H4 y e → Φ (i + 1) (ds ++ [e]) F2 → q y H4) → (∀ F2 H3, Le H1 H3 → Wd T H3 ((L, isL us) :: F2) → Φ (i + 1) ds F2 → N H3) →
      g x (wipe σ vs) H2 fun σ2 H3 => wipe σ2 vs = wipe σ vs ∧ tt σ2 H3 fun b H4 => if b = true then te σ2 H4 q else N H4)
    (done : ∀ L us ds F1 H', Le H H' → Wd T H' ((L, isL us) :: F1) → us.length ≤ n → PdA H' us ds → Φ n ds F1 → Q (.ref L) H') : CQ g tt te vs σ Q J H := by
  refine c_wd w hn w0 (fun i us F1 H1 => ∃ ds, PdA H1 us ds ∧ Φ i ds F1) (fun i acc F1 H1 H2 f l => ?_) ⟨[], .nil, h0⟩ (fun i L us F1 H1 hi l w1 f => ?_) ?_ ?_
  · obtain ⟨ds, h, f⟩ := f
    exact ⟨ds, h.le l, f⟩
  · obtain ⟨ds, h, f⟩ := f
    exact hG i L us ds F1 H1 hi l w1 f
  · rintro i x L us F1 H1 H2 q N hi l w1 ⟨ds, h, f⟩ y hq hN
    exact turn i x L us ds F1 H1 H2 q N hi l w1 f y (fun z e F2 H4 l4 w4 he f4 => hq z F2 H4 l4 w4 ⟨_, (h.le l4).snoc he, f4⟩) fun F2 H3 l3 w3 f3 => hN F2 H3 l3 w3 ⟨ds, h.le l3, f3⟩
  · rintro L us F1 H' l w1 lu ⟨ds, h, f⟩
    exact done L us ds F1 H' l w1 lu h f
/-- elements of one sort -/
theorem c_em {α : Type} (emb : α → V) (w : Walk J n G Y) (hn : n < 16000000) (w0 : Wd T H F) (Φ : Nat → List α → List En → Prop) (h0 : Φ 0 [] F)
    (hG : ∀ i L (ds : List α) F1 H1, i ≤ n → Le H H1 → Wd T H1 ((L, isL (ds.map emb)) :: F1) → Φ i ds F1 → G H1)
    (turn : ∀ i x L (ds : List α) F1 H1 H2 (q : VK) (N : Hp → Prop), i < n → Le H H1 → Wd T H1 ((L, isL (ds.map emb)) :: F1) → Φ i ds F1 → Y i H1 x H2 →
      (∀ e F2 H4, Le H1 H4 → Wd T H4 ((L, isL (ds.map emb)) :: F2) → Φ (i + 1) (ds ++ [e]) F2 → q (emb e) H4) → (∀ F2 H3, Le H1 H3 → Wd T H3 ((L, isL (ds.map emb)) :: F2) → Φ (i + 1) ds F2 → N H3) →
      g x (wipe σ vs) H2 fun σ2 H3 => wipe σ2 vs = wipe σ vs ∧ tt σ2 H3 fun b H4 => if b = true then te σ2 H4 q else N H4)
    (done : ∀ L (ds : List α) F1 H', Le H H' → Wd T H' ((L, isL (ds.map emb)) :: F1) → ds.length ≤ n → Φ n ds F1 → Q (.ref L) H') : CQ g tt te vs σ Q J H := by
  refine c_wd w hn w0 (fun i us F1 H1 => ∃ ds : List α, us = ds.map emb ∧ Φ i ds F1) (fun i acc F1 H1 H2 f l => f) ⟨[], rfl, h0⟩ (fun i L us F1 H1 hi l w1 f => ?_) ?_ ?_
  · obtain ⟨ds, rfl, f⟩ := f
    exact hG i L ds F1 H1 hi l w1 f
  · rintro i x L us F1 H1 H2 q N hi l w1 ⟨ds, rfl, f⟩ y hq hN
    exact turn i x L ds F1 H1 H2 q N hi l w1 f y (fun e F2 H4 l4 w4 f4 => hq _ F2 H4 l4 w4 ⟨_, by rw [List.map_append]; rfl, f4⟩) fun F2 H3 l3 w3 f3 => hN F2 H3 l3 w3 ⟨ds, rfl, f3⟩
  · rintro L us F1 H' l w1 lu ⟨ds, rfl, f⟩
    exact done L ds F1 H' l w1 (by rwa [List.length_map] at lu) f
/-- each turn gives what is known ahead; what may change stays as it is -/
theorem c_fx {α : Type} (emb : α → V) (w : Walk J n G Y) (f : Nat → Option α) (hn : n < 16000000) (w0 : Wd T H F) (hG : ∀ L (ds : List α) H1, Le H H1 → Wd T H1 ((L, isL (ds.map emb)) :: F) → G H1)
    (turn : ∀ i x L (ds : List α) H1 H2 (q : VK) (N : Hp → Prop), i < n → Le H H1 → Wd T H1 ((L, isL (ds.map emb)) :: F) → Y i H1 x H2 →
      (∀ e H4, f i = some e → Le H1 H4 → Wd T H4 ((L, isL (ds.map emb)) :: F) → q (emb e) H4) → (f i = none → ∀ H3, Le H1 H3 → Wd T H3 ((L, isL (ds.map emb)) :: F) → N H3) →
      g x (wipe σ vs) H2 fun σ2 H3 => wipe σ2 vs = wipe σ vs ∧ tt σ2 H3 fun b H4 => if b = true then te σ2 H4 q else N H4)
    (done : ∀ L H', Le H H' → Wd T H' ((L, isL (((List.range n).filterMap f).map emb)) :: F) → Q (.ref L) H') : CQ g tt te vs σ Q J H := by
  have rs : ∀ i, (List.range (i + 1)).filterMap f = (List.range i).filterMap f ++ (f i).toList := fun i => by
    rw [List.range_succ, List.filterMap_append]
    congr 1
  refine c_em emb w hn w0 (fun i ds F1 => ds = (List.range i).filterMap f ∧ F1 = F) ⟨rfl, rfl⟩ (fun i L ds F1 H1 hi l w1 e => ?_) ?_ ?_
  · rw [e.2] at w1
    exact hG L ds H1 l w1
  · rintro i x L ds F1 H1 H2 q N hi l w1 ⟨e1, rfl⟩ y hq hN
    refine turn i x L ds H1 H2 q N hi l w1 y (fun e H4 ef l4 w4 => hq e _ H4 l4 w4 ⟨?_, rfl⟩) fun ef H3 l3 w3 => hN _ H3 l3 w3 ⟨?_, rfl⟩
    · rw [rs, ← e1, ef]; rfl
    · rw [rs, ← e1, ef]; exact (List.append_nil _).symm
  · rintro L ds F1 H' l w1 lu ⟨rfl, rfl⟩
    exact done L H' l w1
/-! by one name: val i is the i-th value -/
section
variable {val : Nat → Option V} {j : Nat} {K : PySem.W.Frag}
theorem c_emN {α : Type} (emb : α → V) (w : Walk J n G Y) (hy : ∀ i H x H', Y i H x H' → H' = H ∧ val i = some x) (hn : n < 16000000) (w0 : Wd T H F) (Φ : Nat → List α → List En → Prop) (h0 : Φ 0 [] F) (hw : ∀ x, wipe ((wipe σ vs).set j (some x)) vs = wipe σ vs)
    (hG : ∀ i L (ds : List α) F1 H1, i ≤ n → Le H H1 → Wd T H1 ((L, isL (ds.map emb)) :: F1) → Φ i ds F1 → G H1)
    (turn : ∀ i x L (ds : List α) F1 H1 (q : VK) (N : Hp → Prop), i < n → val i = some x → Le H H1 → Wd T H1 ((L, isL (ds.map emb)) :: F1) → Φ i ds F1 →
      (∀ e F2 H4, Le H1 H4 → Wd T H4 ((L, isL (ds.map emb)) :: F2) → Φ (i + 1) (ds ++ [e]) F2 → q (emb e) H4) → (∀ F2 H3, Le H1 H3 → Wd T H3 ((L, isL (ds.map emb)) :: F2) → Φ (i + 1) ds F2 → N H3) →
      tt ((wipe σ vs).set j (some x)) H1 fun b H4 => if b = true then te ((wipe σ vs).set j (some x)) H4 q else N H4)
    (done : ∀ L (ds : List α) F1 H', Le H H' → Wd T H' ((L, isL (ds.map emb)) :: F1) → ds.length ≤ n → Φ n ds F1 → Q (.ref L) H') : CQ (gName j) tt te vs σ Q J H :=
  c_em emb w hn w0 Φ h0 hG (fun i x L ds F1 H1 H2 q N hi l w1 f y hq hN => by
    obtain ⟨rfl, e⟩ := hy _ _ _ _ y
    exact ⟨hw _, turn i x L ds F1 H2 q N hi e l w1 f hq hN⟩) done
theorem c_pdN (w : Walk J n G Y) (hy : ∀ i H x H', Y i H x H' → H' = H ∧ val i = some x) (hn : n < 16000000) (w0 : Wd T H F) (Φ : Nat → List PyData → List En → Prop) (h0 : Φ 0 [] F) (hw : ∀ x, wipe ((wipe σ vs).set j (some x)) vs = wipe σ vs)
    (hG : ∀ i L us ds F1 H1, i ≤ n → Le H H1 → Wd T H1 ((L, isL us) :: F1) → Φ i ds F1 → G H1)
    (turn : ∀ i x L us ds F1 H1 (q : VK) (N : Hp → Prop), i < n → val i = some x → Le H H1 → Wd T H1 ((L, isL us) :: F1) → Φ i ds F1 →
      (∀ y e F2 H4, Le H1 H4 → Wd T H4 ((L, isL us) :: F2) → Pd H4 y e → Φ (i + 1) (ds ++ [e]) F2 → q y H4) → (∀ F2 H3, Le H1 H3 → Wd T H3 ((L, isL us) :: F2) → Φ (i + 1) ds F2 → N H3) →
      tt ((wipe σ vs).set j (some x)) H1 fun b H4 => if b = true then te ((wipe σ vs).set j (some x)) H4 q else N H4)
    (done : ∀ L us ds F1 H', Le H H' → Wd T H' ((L, isL us) :: F1) → us.length ≤ n → PdA H' us ds → Φ n ds F1 → Q (.ref L) H') : CQ (gName j) tt te vs σ Q J H :=
  c_pd w hn w0 Φ h0 hG (fun i x L us ds F1 H1 H2 q N hi l w1 f y hq hN => by
    obtain ⟨rfl, e⟩ := hy _ _ _ _ y
    exact ⟨hw _, turn i x L us ds F1 H2 q N hi e l w1 f hq hN⟩) done
theorem c_fxN {α : Type} (emb : α → V) (w : Walk J n G Y) (hy : ∀ i H x H', Y i H x H' → H' = H ∧ val i = some x) (f : Nat → Option α) (hn : n < 16000000) (w0 : Wd T H F) (hw : ∀ x, wipe ((wipe σ vs).set j (some x)) vs = wipe σ vs) (hG : ∀ L (ds : List α) H1, Le H H1 → Wd T H1 ((L, isL (ds.map emb)) :: F) → G H1)
    (turn : ∀ i x L (ds : List α) H1 (q : VK) (N : Hp → Prop), i < n → val i = some x → Le H H1 → Wd T H1 ((L, isL (ds.map emb)) :: F) →
      (∀ e H4, f i = some e → Le H1 H4 → Wd T H4 ((L, isL (ds.map emb)) :: F) → q (emb e) H4) → (f i = none → ∀ H3, Le H1 H3 → Wd T H3 ((L, isL (ds.map emb)) :: F) → N H3) →
      tt ((wipe σ vs).set j (some x)) H1 fun b H4 => if b = true then te ((wipe σ vs).set j (some x)) H4 q else N H4)
    (done : ∀ L H', Le H H' → Wd T H' ((L, isL (((List.range n).filterMap f).map emb)) :: F) → Q (.ref L) H') : CQ (gName j) tt te vs σ Q J H :=
  c_fx emb w f hn w0 hG (fun i x L ds H1 H2 q N hi l w1 y hq hN => by
    obtain ⟨rfl, e⟩ := hy _ _ _ _ y
    exact ⟨hw _, turn i x L ds H2 q N hi e l w1 hq hN⟩) done
theorem y_rng {f : Nat → V} : ∀ i H x H', YFn f i H x H' → H' = H ∧ some (f i) = some x := fun _ _ _ _ y => ⟨y.1, congrArg some y.2.symm⟩
theorem y_seq {xs : List V} : ∀ i H x H', YAt xs i H x H' → H' = H ∧ xs[i]? = some x := fun _ _ _ _ y => y
/-- the same over a tuple: the reading asks for its place -/
theorem s_Tu {R : It → Hp → Prop} {a : Addr} {xs : List V} (h : Tu H a xs) (r : R (ItS K .t a) H) : sQ K R (.ref a) H := s_S (k := .t) h.sq r
theorem s_Li {R : It → Hp → Prop} {a : Addr} {xs : List V} {L : List En} {R' : List En} (w : Wd T H L) (s : Sel (a, isL xs) L R') (r : R (ItS K .l a) H) : sQ K R (.ref a) H := s_S (k := .l) (w.sqL s) r
end
end
/-! ### the law's own script and tables -/
theorem scr_of {K : PySem.W.Frag} {T : List (Addr × Str)} {H : Hp} {a : Addr} {xs : List V} (t : LamX.Tabs T H) (h : SqL K H a xs) : ∃ L : List En, Wd T H L ∧ ∀ H', Wd T H' L → SqL K H' a xs := by
  rcases h with (h | ⟨ob, h⟩) | h
  · exact ⟨[(a, isF xs)], ⟨t, List.nodup_cons.mpr ⟨List.not_mem_nil, List.nodup_nil⟩, fun q hq => by
      rw [List.mem_singleton.mp hq]
      exact ⟨_, h, .inl rfl, rfl⟩⟩, fun H' w => w.sqF .head⟩
  · exact ⟨[(a, isF xs)], ⟨t, List.nodup_cons.mpr ⟨List.not_mem_nil, List.nodup_nil⟩, fun q hq => by
      rw [List.mem_singleton.mp hq]
      exact ⟨_, h, .inr ⟨ob, rfl⟩, rfl⟩⟩, fun H' w => w.sqF .head⟩
  · exact ⟨[], ⟨t, List.nodup_nil, fun q hq => nomatch hq⟩, fun H' _ => .inr h⟩
theorem tab_u : ∀ {T : List (Addr × Str)}, (T.map Prod.fst).Nodup → ∀ {P : Addr} {q : Str}, (P, q) ∈ T → ∀ p ∈ T, p.1 = P → p.2 = q
  | [], _, P, q, m, _, _, _ => nomatch m
  | (P0, q0) :: T, nd, P, q, m, p, hp, e => by
    obtain ⟨n1, n2⟩ := List.nodup_cons.mp nd
    rcases List.mem_cons.mp m with m | m <;> rcases List.mem_cons.mp hp with hp | hp
    · rw [hp]
      injection m with _ m
      exact m.symm
    · injection m with m _
      exact (n1 (List.mem_map.mpr ⟨p, hp, e.trans m⟩)).elim
    · rw [hp] at e
      have e : P0 = P := e
      exact (n1 (List.mem_map.mpr ⟨_, m, e.symm⟩)).elim
    · exact tab_u n2 m p hp e
end PB

/-! PA: dicts: rules that stand beside those of lists; dicts walked, their items in a tuple. -/
namespace PB
open PySem PySem.Spec L2
open PyProof.Rows hiding St
theorem sub_at {prog : Program} {w : World} {A : Around} {E : Value → Shared → Prop} {s : Shared} {value slice : Expr} {o i : Value} {T id : String} {Q : Value → Shared → Prop} (hT : s.TypeIs o T)
    (hl : typeLookup (.type T) "__getitem__" = pure (some (.builtin id))) (h : wpAny (model prog w) A (getItem o i) Q E s) (hs : subscripted slice false o i = operate [o, i] (getItem o i)) :
    wpAny (model prog w) A (subscriptTail value slice o i) Q E s := by
  unfold subscriptTail
  refine wpAny_bind ?_
  rw [getitemInPython_of_ne hT.not_modules]
  refine wpAny_bind (wpAny_specialOf hT hl ?_)
  have fin : wpAny (model prog w) A (subscripted slice false o i) (fun r s₃ => wpAny (model prog w) A (letTemporaryGo value o r >>= fun _ => pure r) Q E s₃) E s := by
    rw [hs]
    exact wpAny_operating (wpAny_mono h (fun r s₃ h₃ => wpAny_bind (wpAny_letTemporaryGo (wpAny_pure h₃))) fun _ _ x => x)
  first
    | exact wpAny_pure (wpAny_bind fin)
    | exact wpAny_bind (wpAny_pure (wpAny_bind fin))
    | exact wpAny_bind fin
section
variable {X : Cx} {K : PySem.W.Frag}
theorem un1 {k : Nat} {A : Around} (hr : Room k A) : A.units + 1 < cLine := by have := un64 hr; omega
/-- d[k], k in d, by values -/
def rIxDic : R2 := fun x y H Q => ∃ a v, x = .ref a ∧ DGet H a y (some v) ∧ Q v H
theorem ix_dic (hu : X.A.units + 1 < cLine) : IxR X rIxDic := by
  intro value slice pins s σ H x y v u Q I rx ry h hs
  obtain ⟨a, z, rfl, g, q⟩ := h
  cases rx
  exact sub_at (T := "dict") (dict_typeIs I g) PySem.F.slot_dict_getitem.lookup (d_getItem hu I g ry fun w' s3 I3 rw' => ⟨z, H, I3, rw', q⟩) hs
def rIxB (K : PySem.W.Frag) : R2 := fun x y H Q => rIxA K x y H Q ∨ rIxDic x y H Q
theorem k_ixB {j : Nat} (eK : X.K = K) (hr : Room j X.A) : IxR X (rIxB K) := IxR.or (k_ix eK) (ix_dic (un1 hr))
def rInDic : R2 := fun y x H Q => ∃ a o, x = .ref a ∧ DGet H a y o ∧ Q (.bl o.isSome) H
def rNinDic : R2 := fun y x H Q => ∃ a o, x = .ref a ∧ DGet H a y o ∧ Q (.bl (!o.isSome)) H
theorem op_inDic (hu : X.A.units + 1 < cLine) : OpR X (compareOp .In) rInDic := by
  intro pins s σ H y x u v Q I ry rx h
  obtain ⟨a, o, rfl, g, q⟩ := h
  cases rx
  exact d_in hu I g ry fun s3 I3 => ⟨.bl o.isSome, H, I3, rfl, q⟩
theorem op_ninDic (hu : X.A.units + 1 < cLine) : OpR X (compareOp .NotIn) rNinDic := by
  intro pins s σ H y x u v Q I ry rx h
  obtain ⟨a, o, rfl, g, q⟩ := h
  cases rx
  exact d_notIn hu I g ry fun s3 I3 => ⟨.bl (!o.isSome), H, I3, rfl, q⟩
def rInB (K : PySem.W.Frag) : R2 := fun x y H Q => rInA K x y H Q ∨ rInDic x y H Q
def rNinB (K : PySem.W.Frag) : R2 := fun x y H Q => rNinA K x y H Q ∨ rNinDic x y H Q
theorem k_inB {j : Nat} (eK : X.K = K) (hr : Room j X.A) : OpR X (compareOp .In) (rInB K) := OpR.or (k_in eK hr) (op_inDic (un1 hr))
theorem k_ninB {j : Nat} (eK : X.K = K) (hr : Room j X.A) : OpR X (compareOp .NotIn) (rNinB K) := OpR.or (k_nin eK hr) (op_ninDic (un1 hr))
/-- o[i] = v -/
def rSetB : TSet := fun o i v H Q => rSetL o i v H Q ∨ rSetD o i v H Q
theorem k_setB {j : Nat} (hr : Room j X.A) : PSet X rSetB := by
  intro pins s σ H o i v ov iv u Q I ro ri rv h
  rcases h with h | h
  · exact set_list pins s σ H o i v ov iv u Q I ro ri rv h
  · exact set_dict (un1 hr) pins s σ H o i v ov iv u Q I ro ri rv h
def rLenDic : List V → Hp → VK → Prop := fun xs H Q => ∃ a kvs, xs = [V.ref a] ∧ H a = some (.dK kvs) ∧ Q (.int kvs.length) H
def rLenB (K : PySem.W.Frag) : List V → Hp → VK → Prop := fun xs H Q => rLenA K xs H Q ∨ rLenDic xs H Q
theorem k_lenB (eK : X.K = K) : CallR X (.builtin "len") (rLenB K) := CallR.or (k_len eK) call_lenD
def rSortDic : List V → Hp → VK → Prop := fun xs H Q => ∃ (a : Addr) (kvs : List (Key × V)) (ks : List Str), xs = [.ref a] ∧ Rd H a (.dK kvs) ∧ kvs.map (·.1) = ks.map Sum.inr ∧ ks.length < 64 ∧ ∀ ys p, ys.Perm ks → sortedS ys = true → H p = none → Q (.ref p) (upd H p (.lst (ys.map V.str)))
def rSortB (K : PySem.W.Frag) : List V → Hp → VK → Prop := fun xs H Q => rSortedA K xs H Q ∨ rSortDic xs H Q
theorem k_sortB (eK : X.K = K) (hc : X.calm = true) : CallR X (.builtin "sorted") (rSortB K) := CallR.or (k_sorted eK) (call_sortedD hc)
def rDictD : List V → Hp → VK → Prop := fun xs H Q => ∃ (a : Addr) (kvs : List (Key × V)), xs = [.ref a] ∧ Rd H a (.dK kvs) ∧ ∀ p, H p = none → Q (.ref p) (upd H p (.dK kvs))
theorem k_dict : CallR X (.type "dict") rDictD := call_dictD
/-- what an expression gives, locked from then on -/
def tLk (td : TE) : TE := fun σ H Q => td σ H fun x H1 => ∃ d, x = .ref d ∧ ((∃ u, H1 d = some u ∧ Mut (some u) ∧ ∀ od, Q x (upd H1 d (.frz od u))) ∨ ((∃ od u, H1 d = some (.frz od u)) ∧ Q x H1))
theorem pe_lk {e : Expr} {td : TE} (h : PE X e td) : PE X e (tLk td) := by
  refine ⟨fun pins s σ H Q I hw => ?_⟩
  refine thn (h.run pins s σ _ _ I hw) fun v s1 ⟨x, H1, I1, r, d, ex, q⟩ => ?_
  rcases q with ⟨u, hd, mu, q⟩ | ⟨_, q⟩
  · obtain ⟨od, I2⟩ := I1.lock hd mu
    exact ⟨x, _, I2, r, q od⟩
  · exact ⟨x, _, I1, r, q⟩
theorem pi_keysL {tg e : Expr} {td : TE} (h : PE X e td) : PI X tg e (iKeys (tLk td)) := pi_keys (pe_lk h)
theorem pi_itemsL {elts : List Expr} {kk : Nat} {tpos apos cpos : Pos} {e : Expr} {td : TE} (he : PE X e td) (hbase : attributeBase e "items" X.env (eval e X.env) = eval e X.env := by rfl) (hline : (apos.endLine == cpos.line) = true := by rfl) :
    PI X (.Tuple elts kk tpos) (.Call (.Attribute e "items" apos) [] [] cpos) (iItems (tLk td)) := pi_items (pe_lk he) hbase hline
theorem pi_valuesL {tg : Expr} {apos cpos : Pos} {e : Expr} {td : TE} (he : PE X e td) (hbase : attributeBase e "values" X.env (eval e X.env) = eval e X.env := by rfl) (hline : (apos.endLine == cpos.line) = true := by rfl) :
    PI X tg (.Call (.Attribute e "values" apos) [] [] cpos) (iVals (tLk td)) := pi_values (pe_lk he) hbase hline
end
/-! ### tuple(d.items()) -/
section
variable {prog : Program} {w : World} {κ : Type} [DecidableEq κ] {knd : PySem.KeyKind prog w κ} {A : Around} {E : Value → Shared → Prop} {s : Shared} {r d : Addr} {kvs : List (κ × Value)} {ep : Nat}
theorem code_tuple_items {Q₁ : Value → Shared → Prop} (hh : A.handled = none) (hv : s.heap.IsItemsView r d) (hm : s.heap.DictAt knd d kvs ep) (hn : kvs.length ≤ sizeLine)
    (h : ∀ (h' : Heap) (tk : Nat) (as : List Addr), (∀ b o, s.heap.get? b = some o → h'.get? b = some o) → as.length = kvs.length → PySem.W.KdxG knd kvs s.heap.objs.size h' as →
        Q₁ (.ref h'.objs.size) { s with heap := h'.push { cls := .type "tuple", data := .seq (as.map Value.ref).toArray }, toks := tk }) :
    codeAny (model prog w) A (.call (.builtin "tuple.__new__") ⟨[.type "tuple", .ref r], []⟩) (wants Q₁ E) s := by
  refine codeAny_of_tree ?_
  show wpAny _ A.in1 (do checkBuiltinCall "tuple.__new__" ⟨[.type "tuple", .ref r], []⟩; again (.builtin "tuple.__new__" ⟨[.type "tuple", .ref r], []⟩)) _ _ s
  refine wpAny_bind (wpAny_of_eq (F.newCall_tuple_1 _) (wpAny_pure ⟨plainId_quiet F.plain_tuple_new _, codeAny_builtin F.entry_tuple_new ?_⟩))
  rw [Around.under_plainId F.plain_tuple_new _]
  have hsub := sub_tuple_self
  have hinit := init_tuple_lookup
  have hmh := madeHere_tuple
  obtain ⟨o, ho, hc, hd⟩ := id hv
  have hT : s.TypeIs (.ref r) "dict_items" := ⟨o, ho, hc⟩
  have hh2 : A.in1.handled = none := hh
  wp_walk using wpAny_typeOf hT, PySem.W.kdx_collect (knd := knd) hh2 hv hm hn
  intro h' tk as hk hl hG
  show wpAny _ _ (Builtin.Tuple.tupleExact (as.map Value.ref).toArray >>= fun v => ret v) _ _ _
  unfold Builtin.Tuple.tupleExact
  refine wpAny_bind (wpAny_newObj_type ?_ (by show (as.map Value.ref).toArray.size ≤ sizeLine; simp only [List.size_toArray, List.length_map]; omega))
  refine wpAny_pure ?_
  exact h h' tk as hk hl hG
theorem call_tuple_items {Q : Value → Shared → Prop} (hh : A.handled = none) (hv : s.heap.IsItemsView r d) (hm : s.heap.DictAt knd d kvs ep) (hn : kvs.length ≤ sizeLine)
    (hQ : ∀ (h' : Heap) (tk : Nat) (as : List Addr), (∀ b o, s.heap.get? b = some o → h'.get? b = some o) → as.length = kvs.length → PySem.W.KdxG knd kvs s.heap.objs.size h' as →
        Q (.ref h'.objs.size) { s with heap := h'.push { cls := .type "tuple", data := .seq (as.map Value.ref).toArray }, toks := tk }) :
    wpAny (model prog w) A (call (.type "tuple") [.ref r]) Q E s := by
  refine callType_codes (Q₁ := fun obj s₁ => s₁.TypeIs obj "tuple" ∧ Q obj s₁) F.called_tuple (F.typeCall_tuple_1 _) F.entry_object_init
    (code_tuple_items (knd := knd) hh hv hm hn fun h' tk as hk hl hG => ⟨⟨_, Heap.get?_push_size _ rfl, rfl⟩, hQ h' tk as hk hl hG⟩) fun obj s₁ h₁ => ?_
  exact ⟨h₁.1, F.args_object_init_2 obj _, object_init_meets F.called_tuple.init.lookup F.called_tuple.made (by decide) prog w A.in1 _ s₁ ⟨h₁.1, rfl, h₁.2⟩⟩
end
/-- what tuple(d.items()) leaves -/
def rItemsT2 : V → Hp → VK → Prop := fun x H Q => ∃ (d : Addr) (kvs : List (Key × V)), x = .ref d ∧ H d = some (.dK kvs) ∧
  ∀ (H' : Hp) (p : Addr) (ts : List Addr), Ex H H' → H' p = some (.tup (ts.map V.ref)) → Paired (fun (t : Addr) (q : Key × V) => H' t = some (.tup [kV q.1, q.2])) ts kvs → Q (.ref p) H'
def tTupItems (te : TE) : TE := fun σ H Q => te σ H fun x H1 => rItemsT2 x H1 Q
section
variable {X : Cx} {e : Expr} {te : TE} {p apos cpos pos : Pos}
theorem items_laidT {pins : List (Addr × Obj)} {σ : L2.St} {H : Hp} {s : Shared} {h' : Heap} {tk : Nat} {kvs : List (Key × V)} {vs : List (Key × Value)} {as : List Addr} (I : Inv X pins σ H s) (hz : kvs.length ≤ sizeLine) (kv : KV kvs vs)
    (hk : ∀ b o, s.heap.get? b = some o → h'.get? b = some o) (hl : as.length = vs.length) (hG : PySem.W.KdxG (mixKind X.prog X.w) vs s.heap.objs.size h' as) :
    ∃ H' : Hp, Ex H H' ∧ Paired (fun (t : Addr) (q : Key × V) => H' t = some (.tup [kV q.1, q.2])) as kvs ∧ Inv X pins σ H' { s with heap := h', toks := tk } := by
  have lk : kvs.length = vs.length := Paired.length kv
  have nd : as.Nodup := List.Pairwise.imp (fun {a b} (h : a < b) => Nat.ne_of_lt h) hG.rise
  have new : ∀ t ∈ as, H t = none := fun t ht => I.hok.fresh (Nat.le_of_lt (hG.above t ht))
  have atP := LiI.putT_at as kvs H (by omega) nd
  have off : ∀ b, b ∉ as → LiI.putT H as kvs b = H b := fun b h1 => by rw [LiI.putT_off as kvs _ h1]
  have low : ∀ b o, s.heap.get? b = some o → b ∉ as := fun b o e => fun z => absurd (Heap.lt_size e) (Nat.not_lt.mpr (Nat.le_of_lt (hG.above b z)))
  have kp : ∀ b u, H b = some u → (LiI.putT H as kvs) b = some u := fun b u e => by
    rw [off b (fun z => by rw [new b z] at e; cases e)]
    exact e
  refine ⟨LiI.putT H as kvs, kp, atP, ?_⟩
  refine I.call' (ch := []) rfl ⟨fun b o q _ _ _ => hk b o q, fun b o q _ _ _ => ⟨o.slots, hk b o q⟩, fun b o q n _ => ?_, fun b o q _ => ⟨o, hk b o q⟩, fun b xs q => kp b _ q, fun b o u q => kp b _ q, fun b ps q => ⟨#[], by rw [kp b _ q]; simp⟩⟩ (fun b u q => ?_) I.bare fun b z => by simp at z
  · rw [off b (low b o q)]
    exact n
  · by_cases hb : b ∈ as
    · obtain ⟨j, pk, e1, e2, e3⟩ := LiI.paired_ix atP hb
      rw [e3] at q
      cases q
      obtain ⟨key, k, x, f1, f2, f3⟩ := hG.pairs j b e1
      obtain ⟨qv, g1, g2, g3⟩ := LiI.paired_get kv e2
      rw [f1] at g1
      cases g1
      have rk : RelV (kV pk.1) key := by
        rw [g2]
        exact relV_key (show keyIs k key = true from f2)
      exact ⟨by show 2 ≤ sizeLine; decide, [key, x], .cons rk (.cons g3 .nil), ⟨_, f3, rfl, _, rfl⟩⟩
    · rw [off b hb] at q
      exact (I.hok b u q).stay (fun d v _ y => hk d v y) (fun d y => kp d _ y) fun d xs y => kp d _ y
/-- tuple(e.items()) -/
theorem pe_tupItems (hc : X.calm = true) (he : PE X e te) (hg : Gl X "tuple") (hm : X.mg "tuple" = none) (hv : bootBuiltins "tuple" = some (.type "tuple")) (hbase : attributeBase e "items" X.env (eval e X.env) = eval e X.env := by rfl) (hline : (apos.endLine == cpos.line) = true := by rfl)
    (hs : starEach [.Call (.Attribute e "items" apos) [] [] cpos] X.env = (false, eval (.Call (.Attribute e "items" apos) [] [] cpos) X.env) :: starEach [] X.env := by rfl) :
    PE X (.Call (.Name "tuple" p) [.Call (.Attribute e "items" apos) [] [] cpos] [] pos) (tTupItems te) := by
  refine ⟨fun pins s σ H Q I hq => ?_⟩
  refine wpAny_Call_Name_kw (ld_blt I hg hm hv ?_)
  refine PyProof.Rows.callWith_type1 ?_ hs rfl
  rw [hs]
  show wpAny _ _ (spliced ((false, eval (.Call (.Attribute e "items" apos) [] [] cpos) X.env) :: backTo pos (starEach [] X.env))) _ _ s
  refine Calls.spliced_cons ?_
  refine wpAny_Call_method (T := "dict") (id := "dict.items") hbase rfl hline F.plainAttrs_dict F.slot_dict_items F.type_dict_items (thn (he.run pins s σ H _ I hq) fun u s1 ⟨x, H1, I1, rx, d, kvs, ex, hd, q⟩ => ?_)
  subst ex
  obtain rfl : u = Value.ref d := rx
  obtain ⟨hz, hs0, vs, kv, hdo⟩ := I1.hok d _ hd
  obtain ⟨ep, hat⟩ := hdo.dictAt
  have lk : kvs.length = vs.length := Paired.length kv
  have I2 : Inv X pins σ H1 { s1 with heap := s1.heap.push { cls := .type "dict_items", data := .fields #[.ref d] } } := I1.kept (t' := s1.toks) fun b ob q => Heap.get?_push_of_some _ q
  refine ⟨hdo.typeIs, hdo.mapOf.noDict, ?_⟩
  show wpAny _ _ (callWith cpos (.builtin "dict.items") [.ref d] [] []) _ X.xe s1
  refine method_meetsIn F.slot_dict_items F.entry_dict_items rfl (PySem.evalArgs_none ⟨rfl, hdo.typeIs, F.args_dict_items_1 _, _, meets_dict_items (mixKind X.prog X.w) d hs0, ⟨vs, hdo⟩, ?_⟩)
  refine Calls.spliced_nil ?_
  refine call_tuple_items (knd := mixKind X.prog X.w) (kvs := vs) (ep := ep) (I1.ok.hd hc) ⟨_, Heap.get?_push_size _ rfl, rfl, rfl⟩ (hat.push _) (by omega) fun h' tk as hk hl hG => ?_
  obtain ⟨H', k1, k6, J⟩ := items_laidT (tk := tk) I2 hz kv hk hl hG
  have hp : H' h'.objs.size = none := J.hok.fresh (Nat.le_refl _)
  have J2 := J.laid (a := h'.objs.size) (o := .tup (as.map V.ref)) (h' := h'.push { cls := .type "tuple", data := .seq (as.map Value.ref).toArray }) (t' := tk) (fun b o e => Heap.get?_push_of_some _ e) (Nat.le_refl _)
    (show ObjOk X.prog X.w _ _ _ (.tup (as.map V.ref)) from ⟨by rw [List.length_map]; omega, as.map Value.ref, LiI.vals_refs as, IsTup.new _ _⟩)
  refine ⟨.ref h'.objs.size, _, J2, rfl, q _ _ as (k1.trans (Ex.new hp)) upd_same ?_⟩
  exact L2.Paired.mapP k6 fun t q h => (Ex.new hp) _ _ h
end
end PB

/-! PC: calls with values by place and by keyword, methods in a try, len(set(..)) of ints. -/
namespace PB
open PySem PySem.Spec L2
open PyProof.Rows hiding St
/-- n is the number of different ints -/
def Dst (ns : List Int) (n : Nat) : Prop := ∃ l : List Int, l.Nodup ∧ (∀ x, x ∈ l ↔ x ∈ ns) ∧ l.length = n
theorem Dst.inj {ns : List Int} {m n : Nat} (h : Dst ns m) (k : Dst ns n) : m = n := by
  obtain ⟨l, a, b, rfl⟩ := h
  obtain ⟨l', a', b', rfl⟩ := k
  exact ((List.perm_ext_iff_of_nodup a a').mpr fun x => (b x).trans (b' x).symm).length_eq
theorem firstMet_nd (val : Nat → Int) : ∀ i, (firstMet val i).Nodup
  | 0 => by rw [firstMet_zero]; exact List.nodup_nil
  | i + 1 => by
    have ih := firstMet_nd val i
    rw [firstMet_succ]
    unfold step_dedup
    split
    · exact ih
    · rename_i h
      rw [List.nodup_append]
      refine ⟨ih, List.nodup_cons.mpr ⟨List.not_mem_nil, List.nodup_nil⟩, fun a ha b hb => ?_⟩
      rw [List.mem_singleton.mp hb]
      rintro rfl
      exact h (List.any_eq_true.mpr ⟨_, ha, by simp⟩)
theorem firstMet_dst (ns : List Int) : Dst ns (firstMet (fun i => ns.getD i 0) ns.length).length := by
  refine ⟨_, firstMet_nd _ _, fun x => ?_, rfl⟩
  have h := firstMet_any (fun i => ns.getD i 0) ns.length x
  have e : (List.range ns.length).map (fun i => ns.getD i 0) = ns := by
    apply List.ext_getElem
    · simp
    · intro i h1 h2
      simp [List.getElem?_eq_getElem h2]
  rw [e] at h
  rw [Bool.eq_iff_iff, List.any_eq_true, List.any_eq_true] at h
  simpa using h
section
variable {X : Cx} {K : PySem.W.Frag}
def tLenSetB (K : PySem.W.Frag) (ta : TE) : TE := fun σ H Q => ta σ H fun x H1 => ∃ (l : Addr) (ns : List Int), x = V.ref l ∧ (SqL K H1 l (ns.map V.int) ∨ SqT K H1 l (ns.map V.int)) ∧ ns.length ≤ 1000 ∧ ∀ n, Dst ns n → Q (.int n) H1
theorem pe_lenSetB {a : Expr} {ta : TE} {p p2 q pos : Pos} (eK : X.K = K) (hc : X.calm = true) (hg : Gl X "len") (hm : X.mg "len" = none) (hg2 : Gl X "set") (hm2 : X.mg "set" = none) (ha : PE X a ta)
    (na : starEach [a] X.env = (false, eval a X.env) :: starEach [] X.env := by rfl) : PE X (.Call (.Name "len" p) [.Call (.Name "set" p2) [a] [] q] [] pos) (tLenSetB K ta) := by
  subst eK
  refine ⟨fun pins s σ H Q I h => ?_⟩
  refine Call_ (ld_blt I hg hm PySem.boot_len ?_)
  refine PyProof.Rows.callWith_builtin1 (PyProof.Rows.args_cons ?_ rfl) rfl rfl
  refine Call_ (ld_blt I hg2 hm2 PyProof.Rows.boot_set ?_)
  refine PyProof.Rows.callWith_type1 (PyProof.Rows.args_cons (thn (ha.run pins s σ H _ I h) fun v s1 ⟨x, H1, I1, r1, q1⟩ => PyProof.Rows.args_nil ?_) na) na rfl
  obtain ⟨l, ns, rfl, hq, h1, q1⟩ := q1
  cases r1
  rcases hq with hq | hq
  · obtain ⟨its, r, pl, hz⟩ := I1.list hq
    have hl : its.toArray.size = ns.length := by rw [List.size_toArray, ← r.length, List.length_map]
    refine call_set_list (I1.ok.hd hc) pl.isList (ns := ns) (by simpa using r.ints) (by unfold scanBound; omega) fun h' tk hS hk => ?_
    rw [hl] at hS
    have dd := firstMet_dst ns
    generalize (firstMet (fun i => ns.getD i 0) ns.length).length = n at hS dd
    refine PyProof.Rows.args_nil ?_
    obtain ⟨o, es, ep, t, ho, hex, hd, _, _, hb, hf, hn⟩ := hS
    have I2 : Inv X pins σ H1 { s1 with heap := h', toks := tk } := I1.kept fun b o e => hk b o (Heap.lt_size e) e
    refine call_len_set ho hex hd hf (by unfold scanBound at hb; omega) ⟨.int n, H1, I2.tok _, ⟨_, by rw [hn]⟩, q1 n dd⟩
  · obtain ⟨its, r, pt, hz⟩ := I1.tuple hq
    have hi : IntsAre its.toArray.toList ns := by simpa using r.ints
    refine call_set_tupI ns (I1.ok.hd hc) (show s1.heap.IsTuple l its.toArray from pt) hi (by unfold scanBound; omega) fun h' tk c R1 hcn k => ?_
    refine PyProof.Rows.args_nil ?_
    obtain ⟨o, es, ep, t, ho, hex, hdt, g, nd, hm3, hb, hf, hn, hr, hl2⟩ := R1
    have dd : Dst ns c := ⟨es.toList.map keyOf, nd, fun x => by rw [← hm3 x, decide_eq_true_eq], by rw [List.length_map, Array.length_toList]; exact hn⟩
    have I2 : Inv X pins σ H1 { s1 with heap := h', toks := tk } := I1.kept fun b o e => k b o e
    refine call_len_set ho hex hdt hf (by unfold scanBound at hb; omega) ⟨.int c, H1, I2.tok _, ⟨_, by rw [hn]⟩, q1 c dd⟩
/-- o.m(e, ..) within a try -/
def tMethS (C : Addr) (m : Str) (sp : Sp) (E : St → XK) (ta : TE) (t : TA) : TE := fun σ H Q => ta σ H fun x H1 => ∃ a dx fs, x = .ref a ∧ H1 a = some (.ins C dx fs) ∧ fs.lookup m = none ∧ t σ H1 fun vs H2 => sp (x :: vs) H2 Q (E σ)
theorem pe_meS {W : WX} {j k : Nat} {C : Addr} {m : Str} {ps : List Str} {sp : Sp} {o e : Expr} {es : List Expr} {ta : TE} {t : TA} {apos pos : Pos} {pl : Sem Bool} (c : MetE X.prog X.w X.K X.mg X.base k C m ps sp) (hr : Room j X.A) (hk : k ≤ j) (tk : Takes X W) (he : PE X o ta) (ha : PA X (e :: es) t)
    (hst : starEach (e :: es) X.env = (false, eval e X.env) :: starEach es X.env := by rfl) (hpl : (backTo pos (starEach es X.env)).any (·.1) = false := by rfl)
    (ht : eval (.Call (.Attribute o m apos) (e :: es) [] pos) X.env = (do
      let ov ← eval o X.env
      standAt apos.atName
      let (f, first) ← holding [ov] (getMethod ov m pl)
      callWith pos f first (backTo pos (starEach (e :: es) X.env)) (backToKw pos (keywordEach [] X.env))) := by rfl) :
    PE X (.Call (.Attribute o m apos) (e :: es) [] pos) (tMethS C m sp (WE W) ta t) := by
  obtain ⟨cl, g, fd, hm, F, b⟩ := c
  refine ⟨fun pins s σ H Q I h => ?_⟩
  refine PySem.W.methodCall_KW (pl := pl) (thn (he.run pins s σ H _ I h) fun u s1 ⟨x, H1, I1, rx, a, dx, fs, ex, ea, l, q⟩ => ?_) ht
  subst ex
  obtain rfl : u = Value.ref a := rx
  refine getmeth_ok I1 ea cl hm l ?_
  refine PySem.W.callWith_K (first := [.ref a]) (h₀ := X.base) I.ok.mod.kin hm.kp (thn (ha.run pos pins s1 σ H1 _ I1 q) fun us s2 ⟨vs, H2, I2, r, q2⟩ => ⟨I2.kIn, ?_⟩) hst hpl
  exact run_fnS (us := .ref a :: us) (vs := .ref a :: vs) F (hr.mono hk) b (passAt tk σ) I2 (.cons rfl r) q2
end
/-! ### by place and by keyword -/
def CalN (P : Program) (w : World) (K : PySem.W.Frag) (mg : Str → Option Value) (base : Heap) (k : Nat) (x : Str) (n : Nat) (ks : List Str) (sp : Sp) (gV : List V → List V → List V) : Prop :=
  ∃ f fd ps g, mg x = some (.ref f) ∧ PySem.W.keepIn K (.ref f) = true ∧ FnOk P w K mg base (L2.CX P w) k f fd ps sp ∧ KBn K fd ps n ks g gV
def MakN (P : Program) (w : World) (K : PySem.W.Frag) (mg : Str → Option Value) (base : Heap) (k : Nat) (x : Str) (C : Addr) (n : Nat) (ks : List Str) (sp : Sp) (gV : List V → List V → List V) : Prop :=
  mg x = some (.ref C) ∧ ∃ f fd ps g, Mk K C f ∧ FnOk P w K mg base (L2.CX P w) k f fd ps sp ∧ KBn K fd ps (n + 1) ks g gV
section
variable {X : Cx} {k j n : Nat} {x : Str} {C : Addr} {ks : List Str} {sp : Sp} {gV : List V → List V → List V} {E : XK} {p pos : Pos} {e : Expr} {es : List Expr} {kws : List Keyword} {t tk : TA}
theorem pe_fN (c : CalN X.prog X.w X.K X.mg X.base k x n ks sp gV) (hr : Room j X.A) (hk : k ≤ j) (hx : Passes (L2.CX X.prog X.w) X E) (ha : PA X (e :: es) t) (hkw : PK X kws tk) (hg : Gl X x := by rfl)
    (hall : (backToKw pos (keywordEach kws X.env)).all (·.1.isSome) = true := by rfl) (hks : (backToKw pos (keywordEach kws X.env)).filterMap (·.1) = ks := by rfl)
    (hdb : (x == ("__debug__" : Str)) = false := by decide) (he : starEach (e :: es) X.env = (false, eval e X.env) :: starEach es X.env := by rfl)
    (hpl : ((backTo pos (starEach (e :: es) X.env)).any (·.1) || (backToKw pos (keywordEach kws X.env)).any (·.1.isNone)) = false := by rfl) :
    PE X (.Call (.Name x p) (e :: es) kws pos) (tCallN n ks.length sp gV E t tk) := by
  obtain ⟨f, fd, ps, g, h1, h2, F, b⟩ := c
  exact pe_callN F (hr.mono hk) hg h1 h2 b hx ha hkw hall hks hdb he hpl
theorem pe_mkN (c : MakN X.prog X.w X.K X.mg X.base k x C n ks sp gV) (hr : Room j X.A) (hk : k + 1 ≤ j) (hx : Passes (L2.CX X.prog X.w) X E) (ha : PA X (e :: es) t) (hkw : PK X kws tk) (hg : Gl X x := by rfl)
    (hall : (backToKw pos (keywordEach kws X.env)).all (·.1.isSome) = true := by rfl) (hks : (backToKw pos (keywordEach kws X.env)).filterMap (·.1) = ks := by rfl)
    (hdb : (x == ("__debug__" : Str)) = false := by decide) (he : starEach (e :: es) X.env = (false, eval e X.env) :: starEach es X.env := by rfl)
    (hpl : ((backTo pos (starEach (e :: es) X.env)).any (·.1) || (backToKw pos (keywordEach kws X.env)).any (·.1.isNone)) = false := by rfl) :
    PE X (.Call (.Name x p) (e :: es) kws pos) (tMakeN C n ks.length sp gV E t tk) := by
  obtain ⟨hm, f, fd, ps, g, M, F, b⟩ := c
  exact pe_makeN M F (hr.mono hk) hg hm b hx ha hkw hall hks hdb he hpl
end
section
variable {P : Program} {w : World} {fa : List He.Fa} {fn : List He.DefD} {K : PySem.W.Frag} {mg : Str → Option Value} {base : Heap}
theorem Ct.calN (C : Ct fa fn K mg base) (i j n : Nat) {x : Str} {a : Arguments} {b : List Stmt} {sc : Scope} (hd : fn[i]? = some ⟨(x, none), x, x, a, b, sc, [], []⟩) (hj : fa[j]? = some (.glo x)) {N ps ks : List Str} {k : Nat} {sp : Sp} {g : List Value → List Value → List Value} {gV : List V → List V → List V} (S : FnScope N ps sc)
    (hrel : ∀ {vs : List V} {us : List Value} {zs : List V} {ws : List Value}, Vals vs us → Vals zs ws → Vals (gV vs zs) (g us ws))
    (hb : ∀ (kV doc pm : Value) (an : Option Addr) (cdv ct : Value) (us ws : List Value), us.length = n → ws.length = ks.length → bindArgs (PySem.W.fnOf x x a b sc .none kV doc pm an cdv ct) ⟨us, ks.zip ws⟩ = pure (ps.zip (g us ws)))
    (len : ∀ vs H Q E, sp vs H Q E → vs.length = ps.length)
    (hbody : ∀ (f : Addr) (cdv : Value) (A : Around) (outer : List Env) (s : Shared) (H : Hp) (vs : List V) (Q : VK) (E : XK), Room k (A.deeper (envOfC x sc s.heap.objs.size f cdv)) → sp vs H Q E →
      ∃ t, PSs (cxOf (L2.CX P w) P w K mg base N x sc f cdv A outer s H E) b t ∧ t { nx := fun _ H' => Q .non H', rt := Q } (start N vs) H) : CalN P w K mg base (k + 1) x n ks sp gV := by
  obtain ⟨fd, F⟩ := C.says.def_ i hd
  obtain ⟨oc, od, dV, kV, doc, pm, an, cdv, ct, osl, rfl, lk, hcd, hD, hK⟩ := F.ex
  have dn : dV = .none := by
    rcases hD with ⟨_, e⟩ | ⟨e, _⟩
    · exact e
    · exact absurd rfl e
  subst dn
  exact ⟨_, _, ps, g, He.glo_ok C.kin C.glob (C.says.fact j hj), F.kp, FunD.ok F S len fun cdv A outer s H vs Q E hr h => hbody _ cdv A outer s H vs Q E hr h, ⟨fun s us ws _ l1 l2 => .of_eq (hb kV doc pm an cdv ct us ws l1 l2), hrel⟩⟩
theorem Ct.makN (C : Ct fa fn K mg base) (i j g n : Nat) {x qual : Str} {a : Arguments} {b : List Stmt} {sc : Scope} (hd : fn[i]? = some ⟨(x, some "__init__"), "__init__", qual, a, b, sc, [], []⟩) (hj : fa[j]? = some (.mkr x)) (hg : fa[g]? = some (.glo x)) {N ps ks : List Str} {k : Nat} {sp : Sp} {gF : List Value → List Value → List Value} {gV : List V → List V → List V} (S : FnScope N ps sc)
    (hrel : ∀ {vs : List V} {us : List Value} {zs : List V} {ws : List Value}, Vals vs us → Vals zs ws → Vals (gV vs zs) (gF us ws))
    (hb : ∀ (kV doc pm : Value) (an : Option Addr) (cdv ct : Value) (us ws : List Value), us.length = n + 1 → ws.length = ks.length → bindArgs (PySem.W.fnOf "__init__" qual a b sc .none kV doc pm an cdv ct) ⟨us, ks.zip ws⟩ = pure (ps.zip (gF us ws)))
    (len : ∀ vs H Q E, sp vs H Q E → vs.length = ps.length)
    (hbody : ∀ (f : Addr) (cdv : Value) (A : Around) (outer : List Env) (s : Shared) (H : Hp) (vs : List V) (Q : VK) (E : XK), Room k (A.deeper (envOfC qual sc s.heap.objs.size f cdv)) → sp vs H Q E →
      ∃ t, PSs (cxOf (L2.CX P w) P w K mg base N qual sc f cdv A outer s H E) b t ∧ t { nx := fun _ H' => Q .non H', rt := Q } (start N vs) H) :
    MakN P w K mg base (k + 1) x (He.ga K x) n ks sp gV := by
  obtain ⟨fd, F⟩ := C.says.def_ i hd
  have ok := FunD.ok F S len fun cdv A outer s H vs Q E hr h => hbody _ cdv A outer s H vs Q E hr h
  obtain ⟨oc, od, dV, kV, doc, pm, an, cdv, ct, osl, rfl, lk, hcd, hD, hK⟩ := F.ex
  have dn : dV = .none := by
    rcases hD with ⟨_, e⟩ | ⟨e, _⟩
    · exact e
    · exact absurd rfl e
  subst dn
  exact ⟨He.glo_ok C.kin C.glob (C.says.fact g hg), _, _, ps, gF, He.mkr_ok (C.says.fact j hj), ok, ⟨fun s us ws _ l1 l2 => .of_eq (hb kV doc pm an cdv ct us ws l1 l2), hrel⟩⟩
end
end PB

/-! PE: data that can be shown; an own object == None; dicts that are records. -/
namespace PB
open PySem PySem.Spec L2
open PyProof.Rows hiding St
/-- small data: it can be laid and shown, its depth and its weight -/
structure Sm (d w : Nat) (p : PyData) : Prop where
  lay : p.canLay0 = true
  sh : p.showable = true
  dep : p.depth ≤ d
  wt : p.weight ≤ w
  short : p.intsShort 40 = true
structure SmA (d w : Nat) (ps : List PyData) : Prop where
  lay : PyData.canLayAll0 ps = true
  sh : PyData.showableAll ps = true
  dep : PyData.depthAll ps ≤ d
  wt : PyData.weightAll ps ≤ w
  short : PyData.intsShortAll 40 ps = true
theorem Sm.mono {d w d' w' : Nat} {p : PyData} (h : Sm d w p) (e1 : d ≤ d') (e2 : w ≤ w') : Sm d' w' p := ⟨h.lay, h.sh, Nat.le_trans h.dep e1, Nat.le_trans h.wt e2, h.short⟩
theorem SmA.mono {d w d' w' : Nat} {p : List PyData} (h : SmA d w p) (e1 : d ≤ d') (e2 : w ≤ w') : SmA d' w' p := ⟨h.lay, h.sh, Nat.le_trans h.dep e1, Nat.le_trans h.wt e2, h.short⟩
theorem SmA.nil : SmA 0 0 [] := ⟨by simp only [PyData.canLayAll0], by simp only [PyData.showableAll], by simp only [PyData.depthAll]; omega, by simp only [PyData.weightAll]; omega, by simp only [PyData.intsShortAll]⟩
theorem SmA.cons {d w e v : Nat} {p : PyData} {ps : List PyData} (h : Sm d w p) (k : SmA e v ps) : SmA (max d e) (w + v + 1) (p :: ps) := by
  have h1 := h.dep
  have h2 := k.dep
  have h3 := h.wt
  have h4 := k.wt
  exact ⟨by simp only [PyData.canLayAll0, h.lay, k.lay, Bool.and_self], by simp only [PyData.showableAll, h.sh, k.sh, Bool.and_self], by simp only [PyData.depthAll]; omega, by simp only [PyData.weightAll]; omega, by simp only [PyData.intsShortAll, h.short, k.short, Bool.and_self]⟩
theorem SmA.all {d w : Nat} : ∀ {ps : List PyData}, (∀ p ∈ ps, Sm d w p) → SmA d (ps.length * (w + 1)) ps
  | [], _ => SmA.nil.mono (by omega) (by omega)
  | p :: ps, h => (SmA.cons (h p List.mem_cons_self) (SmA.all fun q hq => h q (List.mem_cons_of_mem _ hq))).mono (by omega) (by rw [List.length_cons, Nat.succ_mul]; omega)
theorem SmA.app {d w e v : Nat} : ∀ {ps qs : List PyData}, SmA d w ps → SmA e v qs → SmA (max d e) (w + v + 1) (ps ++ qs)
  | [], qs, _, k => k.mono (by omega) (by omega)
  | p :: ps, qs, h, k => by
    obtain ⟨h1, h2, h3, h4, h5⟩ := h
    simp only [PyData.canLayAll0, PyData.showableAll, PyData.intsShortAll, Bool.and_eq_true, PyData.depthAll, PyData.weightAll] at h1 h2 h3 h4 h5
    obtain ⟨i1, i2, i3, i4, i5⟩ := SmA.app (d := d) (w := PyData.weightAll ps) (ps := ps) ⟨h1.2, h2.2, by omega, Nat.le_refl _, h5.2⟩ k
    refine ⟨?_, ?_, ?_, ?_, ?_⟩
    · simp only [List.cons_append, PyData.canLayAll0, h1.1, i1, Bool.and_self]
    · simp only [List.cons_append, PyData.showableAll, h2.1, i2, Bool.and_self]
    · simp only [List.cons_append, PyData.depthAll]; omega
    · simp only [List.cons_append, PyData.weightAll]; omega
    · simp only [List.cons_append, PyData.intsShortAll, h5.1, i5, Bool.and_self]
theorem Sm.non : Sm 0 300 .none := ⟨by simp only [PyData.canLay0], by simp only [PyData.showable], by simp only [PyData.depth]; omega, by simp only [PyData.weight]; omega, by simp only [PyData.intsShort]⟩
theorem Sm.bl (b : Bool) : Sm 0 300 (.bool b) := ⟨by simp only [PyData.canLay0], by simp only [PyData.showable], by simp only [PyData.depth]; omega, by simp only [PyData.weight]; omega, by simp only [PyData.intsShort]⟩
theorem Sm.int {i : Int} (h : -1000000000000000000000000000000 < i ∧ i < 1000000000000000000000000000000) : Sm 0 300 (.int i) := by
  have ha : i.natAbs < 2 ^ 100 := by
    have : (2 : Nat) ^ 100 = 1267650600228229401496703205376 := by decide
    omega
  have hl : i.natAbs.log2 < 100 := by
    by_cases z : i.natAbs = 0
    · rw [z]; decide
    · exact (Nat.log2_lt z).mpr ha
  refine ⟨by simp only [PyData.canLay0], ?_, by simp only [PyData.depth]; omega, ?_, ?_⟩
  · simp only [PyData.showable]
    exact decide_eq_true (by omega)
  · simp only [PyData.weight]
    split <;> omega
  · simp only [PyData.intsShort]
    refine decide_eq_true ?_
    have e := int_text_length_le10 (a := i) (k := 30) (by decide) (by
      have : (10 : Nat) ^ 30 = 1000000000000000000000000000000 := by decide
      omega)
    have e2 : (PyData.shown (.int i)).length = (toString i).length := by
      show (Str.ofString (toString i)).length = _
      rw [PySem.ofString_length]
    omega
theorem Sm.str {x : Str} (hc : PyData.strOk x = true) (hl : x.length ≤ 200) : Sm 0 300 (.str x) := by
  have hz : x.cps.size = x.length := rfl
  refine ⟨by simp only [PyData.canLay0, hc], by simp only [PyData.showable], by simp only [PyData.depth]; omega, ?_, by simp only [PyData.intsShort]⟩
  simp only [PyData.weight]; omega
theorem Sm.tup {d w : Nat} {ps : List PyData} (h : SmA d w ps) : Sm (d + 1) (w + 3) (.tuple ps) := by
  have h1 := h.dep
  have h2 := h.wt
  exact ⟨by simp only [PyData.canLay0, h.lay], by simp only [PyData.showable, h.sh], by simp only [PyData.depth]; omega, by simp only [PyData.weight]; omega, by simp only [PyData.intsShort, h.short]⟩
theorem Sm.lst {d w : Nat} {ps : List PyData} (h : SmA d w ps) : Sm (d + 1) (w + 3) (.list ps) := by
  have h1 := h.dep
  have h2 := h.wt
  exact ⟨by simp only [PyData.canLay0, h.lay], by simp only [PyData.showable, h.sh], by simp only [PyData.depth]; omega, by simp only [PyData.weight]; omega, by simp only [PyData.intsShort, h.short]⟩
theorem SmA.ints {ns : List Int} (h : ∀ n ∈ ns, -1000000000000000000000000000000 < n ∧ n < 1000000000000000000000000000000) : SmA 0 (ns.length * 301) (dI ns) := by
  have := SmA.all (d := 0) (w := 300) (ps := dI ns) fun p hp => by
    obtain ⟨n, hn, rfl⟩ := List.mem_map.mp (show p ∈ ns.map PyData.int from hp)
    exact Sm.int (h n hn)
  rwa [show (dI ns).length = ns.length by unfold dI; rw [List.length_map]] at this
theorem Sm.shw {d w : Nat} {p : PyData} (h : Sm d w p) (hd : d ≤ 60) (hw : w ≤ 380000) : Shw p := by
  refine ⟨h.sh, PyData.hasDict_of_canLay p h.lay, ?_, Nat.le_trans h.dep hd⟩
  have k := PyData.shown_le 40 (by decide) p (PyData.leavesShort_of_canLay0 40 p h.lay h.short)
  have h2 : (40 + 2) * p.weight ≤ 42 * 380000 := Nat.mul_le_mul (by decide) (by have := h.wt; omega)
  have big : 15960040 ≤ sizeLine := by decide
  omega
theorem Sm.shaped {d w : Nat} {p : PyData} (h : Sm d w p) (hd : d ≤ 60) : SeqAt.shaped p = true := sh_of h.lay (by have := h.dep; omega)
theorem n_repr {K : PySem.W.Frag} {H : Hp} {a : Addr} {p : PyData} {Q : VK} (h : Dp K H (.ref a) p) (s : Shw p) (q : Q (.str p.shown) H) : rRepr K [.ref a] H Q := ⟨a, p, rfl, h, s.s1, s.s2, s.s3, s.s4, q⟩
/-! ### an own object == a plain value -/
section
variable {X : Cx} {K : PySem.W.Frag} {k j : Nat} {C : Addr} {ps : List Str} {sp : Sp} {E : XK}
def rOwnN (C : Addr) (sp : Sp) (E : XK) : R2 := fun x y H Q => ∃ a dx fs, x = .ref a ∧ y = .non ∧ H a = some (.ins C dx fs) ∧ sp [.ref a, .non] H (fun v H' => ∃ r, v = .bl r ∧ Q (.bl r) H') E
theorem op_ownEqN (c : MetE X.prog X.w X.K X.mg X.base k C "__eq__" ps sp) (hsub : PySem.W.subIn X.K (.type "NoneType") (.ref C) = some false) (hr : Room j X.A) (hk : k ≤ j) (hx : Passes (L2.CX X.prog X.w) X E) : OpR X (compareOp .Eq) (rOwnN C sp E) := by
  intro pins s σ H x y v u Q I rx ry h
  obtain ⟨a, dx, fs, rfl, rfl, ha, hsp⟩ := h
  obtain ⟨cl, f, fd, M, F, hb⟩ := c
  cases rx
  cases ry
  obtain ⟨mA, J, _⟩ := ins_get I.hok ha
  obtain ⟨od, J, _⟩ := J.look
  obtain ⟨m, hF⟩ := I.fr
  have hr := hr.mono hk
  refine PySem.W.cmp_K (op := .Eq) (tb := .type "NoneType") hr.units0 hF I.ok.mod.kin J (PySem.W.Looks.of_pure rfl) (by simp [PySem.W.notFirst, hsub]) M.at_ M.fn ?_
  have hl := F.len _ _ _ _ hsp
  have r2 : Vals [V.ref a, V.non] [Value.ref a, Value.none] := .cons rfl (.cons rfl .nil)
  refine wpAny_call (codeAny_mono (F.run X.A X.stack s H ⟨[.ref a, .none], []⟩ [.ref a, .none] [.ref a, .non] _ E hr I.env0 (by
    have := hb s [.ref a, .none] I.kIn (by simpa using hl)
    simpa using this) r2 hsp) fun r s' hq => ?_)
  cases r with
  | error e => exact hx pins σ H s e s' I hq
  | ok fl =>
    cases fl with
    | ret w =>
      obtain ⟨z, H', I', rz, r, ez, q⟩ := I.after hq
      subst ez
      cases rz
      exact ⟨.bl r, H', I', rfl, q⟩
    | next => exact False.elim hq
    | brk => exact False.elim hq
    | cont => exact False.elim hq
/-- isinstance(x, C): an instance of C, or None -/
def rIsCN (C : Addr) : List V → Hp → VK → Prop := fun xs H Q => rIsC C xs H Q ∨ (xs = [.non, .ref C] ∧ Q (.bl false) H)
theorem k_isCN (eK : X.K = K) (c : InsC K C) (kn : PySem.W.kitOne K (.type "NoneType") (.ref C) = some false) : CallR X (.builtin "isinstance") (rIsCN C) := by
  subst eK
  intro pins s σ H xs us Q I r h
  rcases h with h | ⟨rfl, q⟩
  · exact C8.call_isC c pins s σ H xs us Q I r h
  · exact call_isi pins s σ H _ us Q I r ⟨.non, .ref C, _, _, false, rfl, .own _, .base .non, kn, q⟩
end
/-! ### dicts that are records: written keys -/
def recK (fs : List (Str × V)) : List (Key × V) := fs.map fun p => (Sum.inr p.1, p.2)
def isR (fs : List (Str × V)) : HO → Prop := fun o => o = .dK (recK fs)
def isD (kvs : List (Key × V)) : HO → Prop := fun o => o = .dK kvs
theorem recK_val (f : Str) : ∀ fs : List (Str × V), valV (recK fs) (Sum.inr f) = fs.lookup f
  | [] => rfl
  | (g, x) :: r => by
    show valV ((Sum.inr g, x) :: recK r) (Sum.inr f) = _
    by_cases e : g = f
    · subst e
      rw [valV_pos (p := (Sum.inr g, x)) rfl, List.lookup_cons, beq_self_eq_true]
    · rw [valV_neg (p := (Sum.inr g, x)) (fun z => e (Sum.inr.inj z)), List.lookup_cons, recK_val f r]
      have : (f == g) = false := beq_eq_false_iff_ne.mpr fun z => e z.symm
      rw [this]
theorem recK_put (f : Str) (v : V) : ∀ fs : List (Str × V), (fs.map Prod.fst).Nodup → putK (recK fs) (Sum.inr f) v = recK (putF f v fs)
  | [], _ => rfl
  | (g, x) :: r, nd => by
    obtain ⟨n1, n2⟩ := List.nodup_cons.mp nd
    have ih := recK_put f v r n2
    by_cases e : g = f
    · subst e
      have ne : ∀ kv ∈ recK r, ¬ kv.1 = Sum.inr g := fun kv hk z => by
        obtain ⟨p, hp, rfl⟩ := List.mem_map.mp hk
        exact n1 (List.mem_map.mpr ⟨p, hp, Sum.inr.inj z⟩)
      unfold putK
      rw [if_pos (by simp [recK])]
      show List.map _ ((Sum.inr g, x) :: recK r) = recK (putF g v ((g, x) :: r))
      rw [List.map_cons, if_pos rfl]
      have : (recK r).map (fun kv => if kv.1 = Sum.inr g then (kv.1, v) else kv) = recK r := by
        conv => rhs; rw [← List.map_id (recK r)]
        exact List.map_congr_left fun kv hk => by rw [if_neg (ne kv hk)]; rfl
      rw [this]
      unfold putF
      rw [if_pos rfl]; rfl
    · unfold putF
      rw [if_neg e]
      show _ = (Sum.inr g, x) :: recK (putF f v r)
      rw [← ih]
      unfold putK
      have h1 : (recK ((g, x) :: r)).any (fun kv => decide (kv.1 = Sum.inr f)) = (recK r).any fun kv => decide (kv.1 = Sum.inr f) := by
        show List.any ((Sum.inr g, x) :: recK r) _ = _
        rw [List.any_cons, decide_eq_false (fun z => e (Sum.inr.inj z)), Bool.false_or]
      rw [h1]
      split
      · show List.map _ ((Sum.inr g, x) :: recK r) = _
        rw [List.map_cons, if_neg (fun z => e (Sum.inr.inj z))]
      · rfl
section
variable {T : List (Addr × Str)} {H : Hp} {L F R : List En} {a b d : Addr} {K : PySem.W.Frag} {Q : VK} {fs : List (Str × V)} {kvs : List (Key × V)} {f : Str} {v : V} {σ : St}
theorem Wd.recd (w : Wd T H L) (s : Sel (a, isR fs) L R) : H a = some (.dK (recK fs)) := by
  obtain ⟨o, h, rfl, _⟩ := w.get s
  exact h
theorem Wd.dic (w : Wd T H L) (s : Sel (a, isD kvs) L R) : H a = some (.dK kvs) := by
  obtain ⟨o, h, rfl, _⟩ := w.get s
  exact h
/-- r['f'] -/
theorem n_rget (w : Wd T H L) (s : Sel (a, isR fs) L R) (e : fs.lookup f = some v) (q : Q v H) : rIxB K (.ref a) (.str f) H Q := by
  have g := DGet.k (k := Sum.inr f) (w.recd s)
  rw [recK_val, e] at g
  exact .inr ⟨a, v, rfl, g, q⟩
/-- r['f'] = v -/
theorem n_rset {N : Hp → Prop} (w : Wd T H L) (s : Sel (a, isR fs) L R) (nd : (fs.map Prod.fst).Nodup) (l : Nat.blt fs.length 1000 = true) (q : ∀ H', Le H H' → Wd T H' ((a, isR (putF f v fs)) :: R) → N H') : rSetB (.ref a) (.str f) v H N := by
  refine .inr ⟨a, upd H a (.dK (recK (putF f v fs))), rfl, ?_, q _ (w.sel s).put_le ((w.sel s).put rfl rfl)⟩
  rw [← recK_put f v fs nd]
  refine DPut.k (k := Sum.inr f) (w.recd s) (Nat.lt_of_lt_of_le (m := 1000) ?_ (by decide))
  unfold recK
  rw [List.length_map]
  exact Nat.le_of_ble_eq_true l
/-- a new dict; a written one -/
def ND (H : Hp) (Q : VK) : Prop := ∀ p, H p = none → Q (.ref p) (upd H p (.dK []))
theorem r_dnew (h : ND H Q) : tDNewK σ H Q := h
theorem n_dnew (w : Wd T H L) (q : ∀ p H', Le H H' → Wd T H' ((p, isD []) :: L) → Q (.ref p) H') : ND H Q := fun p hp => q p _ (Le.ex (Ex.new hp)) (w.new hp rfl rfl)
/-- the pairs of a display: keys that are texts -/
def DQ (p : Addr) (Q : VK) : List (V × V) → Hp → Prop := fun ps H2 => H2 p = some (.dK []) ∧ ∃ kvs : List (Key × V), ps = kvs.map (fun kv => (kV kv.1, kv.2)) ∧ kvs.length ≤ 15 ∧ Q (.ref p) (upd H2 p (.dK (mergeK [] kvs)))
def NDisp (trs : List (TE × TE)) (σ : St) (H : Hp) (Q : VK) : Prop := ∀ p, H p = none → tPairs trs σ (upd H p (.dK [])) (DQ p Q)
theorem r_disp {trs : List (TE × TE)} (h : NDisp trs σ H Q) : tDisp trs σ H Q := h
theorem n_disp {trs : List (TE × TE)} (w : Wd T H L) (q : ∀ p H', Le H H' → Wd T H' ((p, isD []) :: L) → tPairs trs σ H' (DQ p Q)) : NDisp trs σ H Q := fun p hp => q p _ (Le.ex (Ex.new hp)) (w.new hp rfl rfl)
theorem r_pps {tk tv : TE} {r : List (TE × TE)} {Q : List (V × V) → Hp → Prop} (h : tk σ H fun x H1 => tv σ H1 fun y H2 => tPairs r σ H2 fun ps H3 => Q ((x, y) :: ps) H3) : tPairs ((tk, tv) :: r) σ H Q := h
theorem r_pps0 {Q : List (V × V) → Hp → Prop} (h : Q [] H) : tPairs [] σ H Q := h
def strPs : List (V × V) → Option (List (Str × V))
  | [] => some []
  | (.str x, v) :: r => (strPs r).map ((x, v) :: ·)
  | _ => none
theorem strPs_ok : ∀ {ps : List (V × V)} {fs : List (Str × V)}, strPs ps = some fs → ps = (recK fs).map (fun kv => (kV kv.1, kv.2))
  | [], fs, h => by cases h; rfl
  | (.str x, v) :: r, fs, h => by
    unfold strPs at h
    obtain ⟨gs, hg, rfl⟩ := Option.map_eq_some_iff.mp h
    rw [strPs_ok hg]; rfl
theorem merge_rec (fs : List (Str × V)) : ∀ gs : List (Str × V), ((gs ++ fs).map Prod.fst).Nodup → mergeK (recK gs) (recK fs) = recK (gs ++ fs) := by
  induction fs with
  | nil => intro gs _; rw [List.append_nil]; rfl
  | cons p r ih =>
    intro gs nd
    show mergeK (putK (recK gs) (Sum.inr p.1) p.2) (recK r) = _
    have nd1 : (gs.map Prod.fst).Nodup ∧ ∀ x ∈ gs.map Prod.fst, x ≠ p.1 := by
      rw [List.map_append, List.nodup_append] at nd
      exact ⟨nd.1, fun x hx => nd.2.2 x hx p.1 (by rw [List.map_cons]; exact List.mem_cons_self)⟩
    have hp : putK (recK gs) (Sum.inr p.1) p.2 = recK (gs ++ [p]) := by
      rw [putK_new]
      · unfold recK; rw [List.map_append]; rfl
      · rw [recK_val]
        rw [List.lookup_eq_none_iff]
        intro q hq
        have := nd1.2 q.1 (List.mem_map_of_mem hq)
        exact bne_iff_ne.mpr fun z => this z.symm
    rw [hp, ih (gs ++ [p]) (by rw [List.append_assoc]; exact nd), List.append_assoc]; rfl
theorem n_dq {p : Addr} {ps : List (V × V)} {gs : List (Str × V)} (w : Wd T H L) (s : Sel (p, isD []) L R) (e : strPs ps = some gs) (nd : (gs.map Prod.fst).Nodup) (l : gs.length ≤ 15) (q : ∀ H', Le H H' → Wd T H' ((p, isR gs) :: R) → Q (.ref p) H') : DQ p Q ps H := by
  refine ⟨w.dic s, recK gs, strPs_ok e, by unfold recK; rw [List.length_map]; exact l, ?_⟩
  have := merge_rec gs [] (by rw [List.nil_append]; exact nd)
  rw [List.nil_append] at this
  rw [show mergeK [] (recK gs) = recK gs from this]
  exact q _ (w.sel s).put_le ((w.sel s).put rfl rfl)
/-! the rules that stand beside dicts, for lists and tuples -/
section
variable {xs ys : List V} {i : Int} {n : Nat} {N : Hp → Prop}
theorem b_ixT (h : Tu H a xs) (e : atI xs i = some v) (q : Q v H) : rIxB K (.ref a) (.int i) H Q := .inl (n_ixT h e q)
theorem b_ixL (w : Wd T H L) (s : Sel (a, isL xs) L R) (e : atI xs i = some v) (q : Q v H) : rIxB K (.ref a) (.int i) H Q := .inl (n_ixL w s e q)
theorem b_lenL (w : Wd T H L) (s : Sel (a, isL xs) L R) (q : Q (.int xs.length) H) : rLenB K [V.ref a] H Q := .inl (n_lenL w s q)
theorem b_lenI {ns : List Int} (w : Wd T H L) (s : Sel (a, isL (ns.map V.int)) L R) (q : Q (.int ns.length) H) : rLenB K [V.ref a] H Q := .inl (n_lenI w s q)
theorem b_lenT (h : Tu H a xs) (q : Q (.int xs.length) H) : rLenB K [V.ref a] H Q := .inl (n_lenT h q)
theorem b_setL {j : Nat} (w : Wd T H L) (s : Sel (a, isL xs) L R) (l : j < xs.length) (q : ∀ H', Le H H' → Wd T H' ((a, isL (xs.set j v)) :: R) → N H') : rSetB (.ref a) (.int (j : Nat)) v H N := .inl (n_setL w s l q)
theorem b_ixN {j : Nat} (w : Wd T H L) (s : Sel (a, isL xs) L R) (e : xs[j]? = some v) (q : Q v H) : rIxB K (.ref a) (.int (j : Nat)) H Q := .inl (n_ixL w s (atI_nat e) q)
theorem b_in {x y : V} (h : rInA K x y H Q) : rInB K x y H Q := .inl h
theorem b_nin {x y : V} (h : rNinA K x y H Q) : rNinB K x y H Q := .inl h
/-- tuple(range(..)), list(range(..)) -/
theorem r_tupRg {te : St → Hp → (Int → Int → Hp → Prop) → Prop} (h : te σ H fun a b H1 => RgOk a b ∧ ∀ q, H1 q = none → Q (.ref q) (upd H1 q (.tup (rgV a b)))) : tTupRg te σ H Q := h
end
theorem r_mkNN {C : Addr} {m n : Nat} {sp : Sp} {gV : List V → List V → List V} {E : XK} {t tk : TA} (h : t σ H fun vs H1 => tk σ H1 fun zs H2 => vs.length = n ∧ zs.length = m ∧ NMK C sp (fun x => gV (.ref x :: vs) zs) H2 Q E) : tMakeN C n m sp gV E t tk σ H Q := h
theorem r_callNN {m n : Nat} {sp : Sp} {gV : List V → List V → List V} {E : XK} {t tk : TA} (h : t σ H fun vs H1 => tk σ H1 fun zs H2 => vs.length = n ∧ zs.length = m ∧ sp (gV vs zs) H2 Q E) : tCallN n m sp gV E t tk σ H Q := h
end
end PB
namespace K82
open PySem PySem.Spec PyProof.Rows L2
def top (i : Nat) : Stmt := PySem.Challenge.pw_promisedpost_k82_whole_works.main.body.getD i (.Pass ⟨0, 0, 0, 0⟩)
def inn (i j : Nat) : Stmt := match top i with
  | .ClassDef (body := b) .. => b.getD j (.Pass ⟨0, 0, 0, 0⟩)
  | s => s
def dd (x : Str) (i : Nat) : He.DefD := ⟨(x, none), x, x, defArgs (top i), defBody (top i), defScope (top i), [], []⟩
def dk (x : Str) (i : Nat) (kw : List (Str × He.Dv)) : He.DefD := ⟨(x, none), x, x, defArgs (top i), defBody (top i), defScope (top i), [], kw⟩
def dm (c m q : Str) (i j : Nat) : He.DefD := ⟨(c, some m), m, q, defArgs (inn i j), defBody (inn i j), defScope (inn i j), [], []⟩
def fn : List He.DefD := [dd "is_integer" 5, dd "is_in" 6, dd "is_tuple_of" 7, dd "demand" 8, dd "led" 11, dd "is_just_once" 17, dd "doubled_work" 18, dd "is_doubled_work" 19, dd "_law_dice" 21, dd "_law_roll" 22, dd "_law_pick" 23, dd "_law_told" 24, dd "_law_refused" 25, dd "_law_work_do" 26, dd "_law_work" 27, dd "_law_shows" 28, dd "_law_step" 29, dd "_law_is_doubled" 30, dd "_law_courses_right" 31, dd "_law_odd_right" 32, dd "_law_right" 33, dd "law" 34, dm "Work" "__init__" "Work.__init__" 16 0, dm "Work" "told" "Work.told" 16 4, dm "Work" "__eq__" "Work.__eq__" 16 5, dm "Work" "twin" "Work.twin" 16 6, dm "Work" "is_step" "Work.is_step" 16 7, dm "Work" "can_do" "Work.can_do" 16 8, dm "Work" "do" "Work.do" 16 9, dm "Work" "write" "Work.write" 16 10, dm "Work" "end" "Work.end" 16 11]
def pd : List PB.PrpD := [⟨"Work", "results", defArgs (inn 16 1), defBody (inn 16 1), defScope (inn 16 1)⟩, ⟨"Work", "newest", defArgs (inn 16 2), defBody (inn 16 2), defScope (inn 16 2)⟩, ⟨"Work", "holds", defArgs (inn 16 3), defBody (inn 16 3), defScope (inn 16 3)⟩]
def oc : List Str := ["Work"]
def fa : List He.Fa := [.glo "is_integer", .glo "is_in", .glo "is_tuple_of", .glo "demand", .glo "led", .glo "is_just_once", .glo "doubled_work", .glo "is_doubled_work", .glo "_law_dice", .glo "_law_roll", .glo "_law_pick", .glo "_law_told", .glo "_law_refused", .glo "_law_work_do", .glo "_law_work", .glo "_law_shows", .glo "_law_step", .glo "_law_is_doubled", .glo "_law_courses_right", .glo "_law_odd_right", .glo "_law_right", .glo "law", .free "ValueError", .free "property", .free "max", .free "range", .free "isinstance", .free "int", .free "tuple", .free "list", .free "bool", .free "len", .free "repr", .free "min", .free "abs", .free "set", .free "super", .free "str", .int "MOST_STEPS" (20000), .int "MOST_WORK" (100), .int "MOST_WORKERS" (12), .glo "WORDS", .glo "Work", .cls "Work", .mkr "Work", .meth "Work" "told", .meth "Work" "__eq__", .meth "Work" "twin", .meth "Work" "is_step", .meth "Work" "can_do", .meth "Work" "do", .meth "Work" "write", .meth "Work" "end", .noat "Work" "many", .noat "Work" "together", .noat "Work" "fenced", .noat "Work" "mark", .noat "Work" "_results", .noat "Work" "_holds"]
def ini : List PB.IniD := [⟨"BadArgument", "name", defArgs (inn 2 0), defBody (inn 2 0), defScope (inn 2 0)⟩, ⟨"NotPossible", "word", defArgs (inn 3 0), defBody (inn 3 0), defScope (inn 3 0)⟩]
def tf : List He.Defn := [("_law_odd_right", none), ("_law_right", none)]
def exM (K : PySem.W.Frag) : Bool := decide (PySem.W.exmOne K (.ref (PB.clsA K "NotPossible")) (.ref (PB.clsA K "BadArgument")) = some false) && (decide (PySem.W.kitOne K (.type "NoneType") (.ref (He.ga K "Work")) = some false) && (decide (PySem.W.subIn K (.type "NoneType") (.ref (He.ga K "Work")) = some false) && He.tupB K "WORDS" [.str "take", .str "write", .str "mark", .str "drop"]))
def ex (K : PySem.W.Frag) : Bool := ini.all (PB.iniB PySem.Challenge.pw_promisedpost_k82_whole_works K) && (pd.all (PB.prpB K) && oc.all (PB.insB K)) && (decide ((tf.map fun t => (He.cT K t).2).Nodup) && exM K)
abbrev R : PySem.W.OpenRow := PySem.W.OpenLaw.row PySem.Challenge.rw_promisedpost_k82_whole_works
abbrev qv : PySem.Program := PySem.W.view R.prog [34]
def names : List PySem.Str := (["PostError", "BadArgument", "NotPossible", "is_integer", "is_in", "is_tuple_of", "demand", "MOST_STEPS", "led", "MOST_WORK", "MOST_WORKERS", "WORDS", "Work", "is_just_once", "doubled_work", "is_doubled_work", "_law_dice", "_law_roll", "_law_pick", "_law_told"] : List PySem.Str) ++ (["_law_refused", "_law_work_do", "_law_work", "_law_shows", "_law_step", "_law_is_doubled", "_law_courses_right", "_law_odd_right", "_law_right", "__name__"] : List PySem.Str)
abbrev hk : PySem.W.Hook := PB.hookJ 5 fa fn [] tf ini pd ex
def ob (s : PySem.W.SharedT) : PB.AlJ := PB.obsJ 5 fa fn [] tf ini pd ex (HandSHeadRun.getT s)
theorem ob_eq (s : PySem.W.SharedT) : ob s = hk.obs s.abs := PB.obsJ_eq (HandSHeadRun.getT_eq s)
theorem run (w : World) : HandSHeadRun.RunEq R qv hk ob 4000 names w := by
  intro os
  kernel_rfl
end K82

section
open PySem PySem.Spec L2 PB
open PyProof.Rows hiding St
local macro_rules | `(tactic| walk_at "ex") => `(tactic| first
  | with_reducible exact Ex.refl _
  | assumption
  | (with_reducible refine Ex.add ?_ (by assumption); walk_at "ex")
  | (with_reducible refine Ex.trans ?_ (by assumption); walk_at "ex"))
local macro_rules | `(tactic| walk_at "hl") => `(tactic| first
  | assumption
  | with_reducible exact sqL_new
  | with_reducible exact sqT_new
  | with_reducible exact upd_same
  | (with_reducible refine sqL_up (by assumption) ?_; walk_at "hl")
  | (with_reducible refine sqT_up (by assumption) ?_; walk_at "hl")
  | (with_reducible refine at_up (by assumption) ?_; walk_at "hl")
  | (with_reducible refine sqL_ex (by assumption) ?_; walk_at "hl")
  | (with_reducible refine sqT_ex (by assumption) ?_; walk_at "hl")
  | (with_reducible refine at_ex (by assumption) ?_; walk_at "hl"))
local macro_rules | `(tactic| walk_at "rd") => `(tactic| first
  | with_reducible refine r_var (by first | rfl | with_unfolding_all rfl) ?_
  | with_reducible refine r_c ?_
  | with_reducible refine r_op ?_
  | with_reducible refine r_cons ?_
  | with_reducible refine r_nil ?_
  | with_reducible refine r_seq ?_
  | with_reducible refine r_set ?_
  | with_reducible refine r_next ?_
  | with_reducible refine r_brk ?_
  | with_reducible refine r_cont ?_
  | with_reducible refine r_ret ?_
  | with_reducible refine r_ifS ?_
  | with_reducible refine r_test ?_
  | with_reducible refine r_B ?_
  | with_reducible refine r_bl ?_
  | with_reducible refine r_andV ?_
  | with_reducible refine r_orV ?_
  | with_reducible refine r_notV ?_
  | with_reducible refine r_and ?_
  | with_reducible refine r_or ?_
  | with_reducible refine r_not ?_
  | with_reducible refine r_if ?_
  | with_reducible refine r_chain ?_
  | with_reducible refine r_callB ?_
  | with_reducible refine r_call ?_
  | with_reducible refine r_addI ?_
  | with_reducible refine r_cmpI ?_
  | with_reducible refine r_eqI ?_
  | with_reducible refine r_neI ?_
  | with_reducible refine r_I0 ?_
  | with_reducible refine r_max2 ?_
  | with_reducible refine r_min2 ?_
  | with_reducible refine r_int1 ?_
  | with_reducible refine r_for ?_
  | with_reducible refine r_lc ?_
  | with_reducible refine r_iSeq ?_
  | with_reducible refine r_iZip ?_
  | with_reducible refine r_iEnum ?_
  | with_reducible refine r_iRng1 ?_
  | with_reducible refine r_iRng2 ?_
  | with_reducible refine r_truB ?_
  | with_reducible refine r_yes ?_
  | with_reducible refine r_tru ?_
  | with_reducible refine r_bm ?_
  | with_reducible refine r_asg ?_
  | with_reducible refine r_gname ?_
  | with_reducible refine r_drop ?_
  | with_reducible refine r_rais ?_
  | with_reducible refine r_aug (by first | rfl | with_unfolding_all rfl) ?_
  | with_reducible refine r_augS ?_
  | with_reducible refine r_ipI ?_
  | with_reducible refine r_gsub ?_
  | with_reducible refine r_sl ?_
  | with_reducible refine r_part ?_
  | with_reducible refine r_nopart ?_
  | with_reducible refine r_parI ?_
  | with_reducible refine r_tup ?_
  | with_reducible refine r_lst ?_
  | with_reducible refine r_par ?_
  | with_reducible refine r_pQ ?_
  | with_reducible refine r_un ?_
  | with_reducible refine r_U ?_
  | ((with_reducible refine r_T ?_ ?_); focus rfl)
  | ((with_reducible refine r_F ?_ ?_); focus rfl))
local macro_rules | `(tactic| walk_at "rq") => `(tactic| first
  | with_reducible refine r_var (by first | rfl | with_unfolding_all rfl) ?_
  | with_reducible refine r_c ?_
  | with_reducible refine r_op ?_
  | with_reducible refine r_cons ?_
  | with_reducible refine r_nil ?_
  | with_reducible refine r_seq ?_
  | with_reducible refine r_set ?_
  | with_reducible refine r_next ?_
  | with_reducible refine r_brk ?_
  | with_reducible refine r_cont ?_
  | with_reducible refine r_ret ?_
  | with_reducible refine r_test ?_
  | with_reducible refine r_B ?_
  | with_reducible refine r_bl ?_
  | with_reducible refine r_andV ?_
  | with_reducible refine r_orV ?_
  | with_reducible refine r_notV ?_
  | with_reducible refine r_and ?_
  | with_reducible refine r_or ?_
  | with_reducible refine r_not ?_
  | with_reducible refine r_if ?_
  | with_reducible refine r_chain ?_
  | with_reducible refine r_callB ?_
  | with_reducible refine r_call ?_
  | with_reducible refine r_addI ?_
  | with_reducible refine r_cmpI ?_
  | with_reducible refine r_eqI ?_
  | with_reducible refine r_neI ?_
  | with_reducible refine r_I0 ?_
  | with_reducible refine r_max2 ?_
  | with_reducible refine r_min2 ?_
  | with_reducible refine r_int1 ?_
  | with_reducible refine r_for ?_
  | with_reducible refine r_lc ?_
  | with_reducible refine r_iSeq ?_
  | with_reducible refine r_iZip ?_
  | with_reducible refine r_iEnum ?_
  | with_reducible refine r_iRng1 ?_
  | with_reducible refine r_iRng2 ?_
  | with_reducible refine r_truB ?_
  | with_reducible refine r_yes ?_
  | with_reducible refine r_tru ?_
  | with_reducible refine r_bm ?_
  | with_reducible refine r_asg ?_
  | with_reducible refine r_gname ?_
  | with_reducible refine r_drop ?_
  | with_reducible refine r_rais ?_
  | with_reducible refine r_aug (by first | rfl | with_unfolding_all rfl) ?_
  | with_reducible refine r_augS ?_
  | with_reducible refine r_ipI ?_
  | with_reducible refine r_gsub ?_
  | with_reducible refine r_sl ?_
  | with_reducible refine r_part ?_
  | with_reducible refine r_nopart ?_
  | with_reducible refine r_parI ?_
  | with_reducible refine r_tup ?_
  | with_reducible refine r_lst ?_
  | with_reducible refine r_par ?_
  | with_reducible refine r_pQ ?_
  | with_reducible refine r_un ?_
  | with_reducible refine r_U ?_
  | ((with_reducible refine r_T ?_ ?_); focus rfl)
  | ((with_reducible refine r_F ?_ ?_); focus rfl))

local macro_rules | `(tactic| walk_at "sel") => `(tactic| first
  | with_reducible exact Sel.head
  | with_reducible assumption
  | (with_reducible apply Sel.tail; walk_at "sel"))
local macro_rules | `(tactic| walk_at "le") => `(tactic| first
  | with_reducible assumption
  | with_reducible exact Le.refl _
  | (with_reducible refine Le.trans ?_ (by with_reducible assumption); walk_at "le"))
local macro_rules | `(tactic| walk_at "tu") => `(tactic| first
  | with_reducible assumption
  | (with_reducible apply Tu.le; with_reducible assumption; walk_at "le"))
local macro_rules | `(tactic| walk_at "pd") => `(tactic| first
  | with_reducible assumption
  | with_reducible exact Pd.int _
  | with_reducible exact Pd.str _
  | with_reducible exact Pd.bl _
  | with_reducible exact Pd.non
  | (with_reducible apply Pd.le; with_reducible assumption; walk_at "le")
  | (with_reducible apply Pd.tup; walk_at "tu"; walk_at "pda"))
local macro_rules | `(tactic| walk_at "pda") => `(tactic| first
  | with_reducible assumption
  | with_reducible exact PdA.nil
  | (with_reducible apply PdA.cons; walk_at "pd"; walk_at "pda")
  | (with_reducible apply PdA.le; with_reducible assumption; walk_at "le")
  | with_reducible exact pd_ints _)
local macro_rules | `(tactic| walk_at "pk") => `(tactic| first
  | with_reducible exact Pk.id
  | with_reducible exact Pk.nil
  | (with_reducible apply Pk.cons; walk_at "sel"; walk_at "pk")
  | (with_reducible apply Pk.drop; walk_at "pk"))
local macro_rules | `(tactic| walk_at "selD") => `(tactic| first
  | exact Sel.head
  | ((with_reducible apply Sel.tail); walk_at "selD"))
local macro_rules | `(tactic| walk_at "pkD") => `(tactic| first
  | with_reducible exact Pk.id
  | with_reducible exact Pk.nil
  | ((with_reducible apply Pk.cons); walk_at "selD"; walk_at "pkD")
  | ((with_reducible apply Pk.drop); walk_at "pkD"))
local macro_rules | `(tactic| walk_at "wdD") => `(tactic| ((with_reducible apply Wd.pk); (with_reducible assumption); walk_at "pkD"))
local macro_rules | `(tactic| walk_at "wd") => `(tactic| first
  | with_reducible assumption
  | (with_reducible apply Wd.pk; with_reducible assumption; walk_at "pk"))
local macro_rules | `(tactic| walk_at "dp") => `(tactic| first
  | with_reducible assumption
  | (with_reducible apply Pd.dp; walk_at "pd")
  | (with_reducible apply Dp.lst; with_reducible apply Wd.sqL; with_reducible assumption; walk_at "sel"; with_reducible apply PdA.dp; walk_at "pda"))
local macro_rules | `(tactic| walk_at "ati") => `(tactic| first
  | with_reducible exact at_0
  | with_reducible exact at_1
  | with_reducible exact at_2
  | with_reducible exact at_3)
local macro_rules | `(tactic| walk_at "ws") => `(tactic| (with_reducible assumption; walk_at "sel"))
local macro_rules | `(tactic| walk_at "st") => `(tactic| first
  | (with_reducible apply n_tup; with_reducible assumption; (with_unfolding_all rfl); intro _ _ _ _ _)
  | (with_reducible apply n_lst; with_reducible assumption; (with_unfolding_all rfl); intro _ _ _ _)
  | (with_reducible apply n_fld; walk_at "ws"; with_reducible assumption; with_reducible assumption; (with_unfolding_all rfl))
  | (with_reducible apply n_sfld; walk_at "ws"; with_reducible assumption; with_reducible assumption; (with_unfolding_all rfl); intro _ _ _)
  | (with_reducible apply n_meth; walk_at "ws"; (with_unfolding_all rfl))
  | (with_reducible apply n_prop; walk_at "ws")
  | (with_reducible apply n_ixT; walk_at "tu"; walk_at "ati")
  | (with_reducible apply n_ixL; walk_at "ws"; walk_at "ati")
  | (with_reducible apply n_lenT; walk_at "tu")
  | (with_reducible apply n_lenI; walk_at "ws")
  | (with_reducible apply n_lenL; walk_at "ws")
  | (with_reducible apply n_tupL; walk_at "ws"; intro _ _ _ _ _)
  | (with_reducible apply n_tupT; walk_at "tu")
  | (with_reducible apply n_listL; walk_at "ws"; intro _ _ _ _)
  | (with_reducible apply n_listT; with_reducible assumption; walk_at "tu"; intro _ _ _ _)
  | (with_reducible apply n_slL; walk_at "ws"; intro _ _ _ _)
  | (with_reducible apply r_mulI; (with_unfolding_all first | exact Or.inl (by omega) | exact Or.inr (by omega)))
  | (with_reducible apply r_modI; omega)
  | with_reducible refine r_int1B ?_
  | with_reducible refine n_eqB ?_
  | (with_reducible apply r_gtup; with_reducible apply Tu.sq; walk_at "tu"; (with_unfolding_all rfl))
  | with_reducible refine r_gcons ?_
  | with_reducible refine r_gnil ?_
  | (with_reducible apply n_tyL; walk_at "ws")
  | (with_reducible apply n_kw; (with_unfolding_all rfl))
  | (with_reducible apply n_makeK; with_reducible assumption; intro _ _ _ _)
  | (with_reducible apply n_make; with_reducible assumption; intro _ _ _ _))
local macro_rules | `(tactic| walk_at "lk") => `(tactic| with_unfolding_all rfl)
local macro_rules | `(tactic| walk_at "sd") => `(tactic| first
  | (with_reducible apply b_ixT; walk_at "tu"; walk_at "ati")
  | (with_reducible apply b_ixL; walk_at "ws"; walk_at "ati")
  | (with_reducible apply n_rget; walk_at "ws"; walk_at "lk")
  | (with_reducible apply n_rset; walk_at "ws"; (decide +kernel); (with_unfolding_all rfl); intro _ _ _)
  | (with_reducible apply b_lenT; walk_at "tu")
  | (with_reducible apply b_lenI; walk_at "ws")
  | (with_reducible apply b_lenL; walk_at "ws")
  | with_reducible refine r_dnew ?_
  | (with_reducible apply n_dnew; with_reducible assumption; intro _ _ _ _)
  | with_reducible refine r_disp ?_
  | (with_reducible apply n_disp; with_reducible assumption; intro _ _ _ _)
  | with_reducible refine r_pps ?_
  | with_reducible refine r_pps0 ?_
  | (with_reducible apply n_dq; walk_at "ws"; (with_unfolding_all rfl); (decide +kernel); (decide +kernel); intro _ _ _))
local macro_rules | `(tactic| walk_at "go") => `(tactic| first
  | with_reducible refine r_tupN ?_
  | with_reducible refine r_lstN ?_
  | with_reducible refine r_makeN ?_
  | with_reducible refine r_makeKN ?_
  | with_reducible refine r_sfldN ?_
  | with_reducible refine r_mkNN ?_
  | with_reducible refine r_callNN ?_
  | walk_at "rd"
  | walk_at "st"
  | walk_at "sd")

local macro_rules | `(tactic| walk_at "rd") => `(tactic| first
  | with_reducible refine r_m1 ?_
  | with_reducible refine r_eqZ ?_
  | with_reducible refine r_neZ ?_
  | with_reducible refine r_meth ?_
  | with_reducible refine r_methK ?_
  | with_reducible refine r_makeK ?_
  | with_reducible refine r_make ?_
  | with_reducible refine r_prop ?_
  | with_reducible refine r_fldS ?_
  | with_reducible refine r_sfld ?_
  | with_reducible refine r_fldaug ?_
  | with_reducible refine r_iRgo ?_
  | with_reducible refine r_callS ?_)

namespace K82
abbrev Cx0 := CtJ fa fn pd oc
section
variable {P : Program} {w : World} {K : PySem.W.Frag} {mg : Str → Option Value} {base : Heap}
abbrev s_is_integer : Stmt := top 5
theorem sc_is_integer : FnScope ["value"] ["value"] (defScope s_is_integer) := ⟨rfl, rfl, rfl, by decide +kernel, rfl, by decide +kernel, by decide +kernel⟩
def sp_is_integer (K : PySem.W.Frag) : Sp := fun vs H Q _ => ∃ v T, vs = [v] ∧ IsTy K H v T ∧ Q (.bl (isIntV v)) H
theorem ok_is_integer (C : Cx0 K mg base) : Cal P w K mg base 1 "is_integer" ["value"] (sp_is_integer K) := by
  refine C.cal 0 0 rfl rfl sc_is_integer (fun _ _ _ _ _ _ us hl => match us, hl with | [_], _ => rfl) (fun vs H Q E h => ?_) (fun f cdv A outer s H vs Q E hr h => ⟨_, PSs.nox
    (pss_one (ps_ret (pe_and (pe_bi (k_isi (K := K) rfl) (C.free 26) (by decide +kernel) (pa_cons (pv 0) (pa_cons (pe_ty "int" (C.free 27)) pa_nil))) (pe_one (pe_not (pe_bi (k_isi (K := K) rfl) (C.free 26) (by decide +kernel) (pa_cons (pv 0) (pa_cons (pe_ty "bool" (C.free 30)) pa_nil)))))))), ?_⟩)
  · obtain ⟨v, T, rfl, _⟩ := h
    rfl
  · obtain ⟨v, T, rfl, ty, k⟩ := h
    repeat walk_at "rd"
    rcases ty.cases with ⟨rfl, rfl⟩ | ⟨b, rfl, rfl⟩ | ⟨i, rfl, rfl⟩ | ⟨x, rfl, rfl⟩ | ⟨a, rfl, ht⟩
    · exact r_isi (b := false) ty rfl ⟨false, rfl, k⟩
    · refine r_isi (b := true) ty rfl ⟨true, rfl, ?_⟩
      repeat walk_at "rd"
      exact r_isi (b := true) ty rfl ⟨true, rfl, k⟩
    · refine r_isi (b := true) ty rfl ⟨true, rfl, ?_⟩
      repeat walk_at "rd"
      exact r_isi (b := false) ty rfl ⟨false, rfl, k⟩
    · exact r_isi (b := false) ty rfl ⟨false, rfl, k⟩
    · simp only [List.mem_cons, List.not_mem_nil, or_false] at ht
      rcases ht with rfl | rfl | rfl <;> exact r_isi (b := false) ty rfl ⟨false, rfl, k⟩
abbrev s_is_in : Stmt := top 6
theorem sc_is_in : FnScope ["value", "low", "high"] ["value", "low", "high"] (defScope s_is_in) := ⟨rfl, rfl, rfl, by decide +kernel, rfl, by decide +kernel, by decide +kernel⟩
def inB (lo hi : Int) : V → Bool
  | .int i => decide (lo ≤ i) && decide (i ≤ hi)
  | _ => false
theorem inB_yes {lo hi i : Int} (h1 : lo ≤ i) (h2 : i ≤ hi) : inB lo hi (.int i) = true := by
  show (decide (lo ≤ i) && decide (i ≤ hi)) = _
  rw [decide_eq_true h1, decide_eq_true h2]; rfl
theorem inB_int {lo hi i : Int} : inB lo hi (.int i) = true ↔ lo ≤ i ∧ i ≤ hi := by
  show (decide (lo ≤ i) && decide (i ≤ hi)) = true ↔ _
  rw [Bool.and_eq_true, decide_eq_true_eq, decide_eq_true_eq]
def sp_is_in (K : PySem.W.Frag) : Sp := fun vs H Q _ => ∃ v T lo hi, vs = [v, .int lo, .int hi] ∧ IsTy K H v T ∧ Q (.bl (inB lo hi v)) H
theorem ok_is_in (C : Cx0 K mg base) : Cal P w K mg base 2 "is_in" ["value", "low", "high"] (sp_is_in K) := by
  have c_is_integer := ok_is_integer (P := P) (w := w) C
  refine C.cal 1 1 rfl rfl sc_is_in (fun _ _ _ _ _ _ us hl => match us, hl with | [_, _, _], _ => rfl) (fun vs H Q E h => ?_) (fun f cdv A outer s H vs Q E hr h => ⟨_, PSs.nox
    (pss_one (ps_ret (pe_and (pe_f c_is_integer hr (by first | decide | omega) passL (pa_cons (pv 0) pa_nil)) (pe_one (pe_chain (k_le (K := K) rfl hr) (k_le (K := K) rfl hr) (pv 1) (pv 0) (pv 2)))))), ?_⟩)
  · obtain ⟨v, T, lo, hi, rfl, _⟩ := h
    rfl
  · obtain ⟨v, T, lo, hi, rfl, ty, k⟩ := h
    repeat walk_at "rd"
    refine ⟨v, T, rfl, ty, ?_⟩
    cases v with
    | int i =>
      repeat walk_at "rd"
      by_cases c : lo ≤ i
      · refine r_T (decide_eq_true c) ?_
        repeat walk_at "rd"
        have e : inB lo hi (.int i) = decide (i ≤ hi) := by
          show (decide (lo ≤ i) && decide (i ≤ hi)) = _
          rw [decide_eq_true c, Bool.true_and]
        rw [e] at k
        exact k
      · refine r_F (decide_eq_false c) ?_
        have e : inB lo hi (.int i) = false := by
          show (decide (lo ≤ i) && decide (i ≤ hi)) = _
          rw [decide_eq_false c, Bool.false_and]
        rw [e] at k
        exact k
    | _ => exact ⟨false, rfl, k⟩
abbrev cBad (K : PySem.W.Frag) : Value := .ref (clsA K "BadArgument")
/-- what a refusal of this name leaves -/
def Refuses (K : PySem.W.Frag) (n : Str) (H : Hp) (E : XK) : Prop := ∀ d H', H d = none → Ex H H' → H' d = some (.xd [("name", .str n)]) → E (cBad K) (some d) H'
theorem Refuses.ex {n : Str} {H H' : Hp} {E : XK} (h : Refuses K n H E) (e : Ex H H') : Refuses K n H' E := fun d H2 f e2 a => h d H2 (e.free f) (e.trans e2) a
abbrev OBad (P : Program) (w : World) (K : PySem.W.Frag) (mg : Str → Option Value) (base : Heap) : Prop := Own P w K mg base 1 "BadArgument" "name"
abbrev s_demand : Stmt := top 8
theorem sc_demand : FnScope ["is_good", "name"] ["is_good", "name"] (defScope s_demand) := ⟨rfl, rfl, rfl, by decide +kernel, rfl, by decide +kernel, by decide +kernel⟩
def sp_demand (K : PySem.W.Frag) : Sp := fun vs H Q E => ∃ b n, vs = [.bl b, .str n] ∧ (b = true → Q .non H) ∧ (b = false → Refuses K n H E)
theorem ok_demand (C : Cx0 K mg base) (o_BadArgument : OBad P w K mg base) : Cal P w K mg base 3 "demand" ["is_good", "name"] (sp_demand K) := by
  refine C.cal 3 3 rfl rfl sc_demand (fun _ _ _ _ _ _ us hl => match us, hl with | [_, _], _ => rfl) (fun vs H Q E h => ?_) (fun f cdv A outer s H vs Q E hr h => ⟨_,
    (pss_one (ps_if (pt_not (k_truth (K := K) rfl (pv 0) (by intro _; rfl))) (pss_one (ps_own (K := K) rfl o_BadArgument rfl (takes_of rfl rfl rfl rfl) hr (by decide) passL (pv 1))) pss_nil)), ?_⟩)
  · obtain ⟨b, n, rfl, _⟩ := h
    rfl
  · obtain ⟨b, n, rfl, k1, k2⟩ := h
    repeat walk_at "rd"
    cases b with
    | true =>
      repeat walk_at "rd"
      exact k1 rfl
    | false =>
      repeat walk_at "rd"
      exact r_mkQ fun d H' f e a => k2 rfl d H' f e a

abbrev ONot (P : Program) (w : World) (K : PySem.W.Frag) (mg : Str → Option Value) (base : Heap) : Prop := Own P w K mg base 1 "NotPossible" "word"
abbrev cNot0 (K : PySem.W.Frag) : Addr := clsA K "NotPossible"
abbrev cBad0 (K : PySem.W.Frag) : Addr := clsA K "BadArgument"
section
variable {T : List (Addr × Str)} {H : Hp} {L F R R1 R2 : List En} {E : XK} {Q : VK}
theorem k_is_in {v : V} {Ty : String} {lo hi : Int} (ty : IsTy K H v Ty) (q : Q (.bl (inB lo hi v)) H) : sp_is_in K [v, .int lo, .int hi] H Q E := ⟨v, Ty, lo, hi, rfl, ty, q⟩
theorem k_demand {b : Bool} {n : Str} (w : Wd T H L) (h1 : b = true → Q .non H) (h2 : b = false → Refuse T L (cBad0 K) "name" n H E) : sp_demand K [.bl b, .str n] H Q E := ⟨b, n, rfl, h1, fun e => (h2 e).old w⟩
theorem isBl_ty {v : V} {Ty : String} (ty : IsTy K H v Ty) : isT Ty "bool" = isBlV v := by
  rcases ty.cases with ⟨rfl, rfl⟩ | ⟨b, rfl, rfl⟩ | ⟨i, rfl, rfl⟩ | ⟨x, rfl, rfl⟩ | ⟨a, rfl, ht⟩
  · rfl
  · rfl
  · rfl
  · rfl
  · simp only [List.mem_cons, List.not_mem_nil, or_false] at ht
    rcases ht with rfl | rfl | rfl <;> rfl
theorem inB_dp {v : V} {d : PyData} {lo hi : Int} (h : Dp K H v d) : inB lo hi v = (match d with | .int i => decide (lo ≤ i) && decide (i ≤ hi) | _ => false) := by
  cases h <;> rfl
end
def tupD (n : Int) : PyData → Bool
  | .tuple xs => decide ((xs.length : Int) = n)
  | _ => false
abbrev s_is_tuple_of : Stmt := top 7
theorem sc_is_tuple_of : FnScope ["value", "many"] ["value", "many"] (defScope s_is_tuple_of) := ⟨rfl, rfl, rfl, by decide +kernel, rfl, by decide +kernel, by decide +kernel⟩
def sp_is_tuple_of (K : PySem.W.Frag) : Sp := fun vs H Q _ => ∃ v p n, vs = [v, .int n] ∧ Dp K H v p ∧ Q (.bl (tupD n p)) H
theorem ok_is_tuple_of (C : Cx0 K mg base) : Cal P w K mg base 1 "is_tuple_of" ["value", "many"] (sp_is_tuple_of K) := by
  refine C.cal 2 2 rfl rfl sc_is_tuple_of (fun _ _ _ _ _ _ us hl => match us, hl with | [_, _], _ => rfl) (fun vs H Q E h => ?_) (fun f cdv A outer s H vs Q E hr h => ⟨_, PSs.nox
    (pss_one (ps_ret (pe_and (pe_bi (k_isi (K := K) rfl) (C.free 26) (by decide +kernel) (pa_cons (pv 0) (pa_cons (pe_ty "tuple" (C.free 28)) pa_nil))) (pe_one (pe_cmpR (k_eq (K := K) rfl hr) (pe_bi (k_len (K := K) rfl) (C.free 31) (by decide +kernel) (pa_cons (pv 0) pa_nil)) (pv 1) (nomark _)))))), ?_⟩)
  · obtain ⟨v, p, n, rfl, _⟩ := h
    rfl
  · obtain ⟨v, p, n, rfl, dp, k⟩ := h
    repeat walk_at "rd"
    refine r_isiK (Dp.ty dp) (by decide) ?_
    rw [isT_tup]
    cases dp with
    | tup ht hd =>
      repeat walk_at "rd"
      refine r_lenT ht ?_
      repeat walk_at "rd"
      rw [DpA.length hd]
      exact k
    | _ => exact ⟨false, rfl, k⟩

/-! ### the plain work -/
abbrev Hold := Option (Int × Bool)
def holdD : Hold → PyData
  | none => .none
  | some (n, b) => .tuple [.int n, .bool b]
structure WS where
  mrk : Int
  rs : List Int
  hs : List Hold
/-! ### the object -/
abbrev CW (K : PySem.W.Frag) : Addr := He.ga K "Work"
def wf (mn : Int) (tg fe : Bool) (mk : Int) (p q : Addr) : List (Str × V) := [("many", .int mn), ("together", .bl tg), ("fenced", .bl fe), ("mark", .int mk), ("_results", .ref p), ("_holds", .ref q)]
abbrev fW (K : PySem.W.Frag) (a p q : Addr) (mn : Int) (tg fe : Bool) (mk : Int) (rs : List Int) (us : List V) (F : List En) : List En := (a, isI (CW K) (wf mn tg fe mk p q)) :: (p, isL (rs.map V.int)) :: (q, isL us) :: F
/-- a work in the row -/
structure HasW (K : PySem.W.Frag) (L : List En) (a p q : Addr) (mn : Int) (tg fe : Bool) (mk : Int) (rs : List Int) (us : List V) : Prop where
  s1 : ∃ R, Sel (a, isI (CW K) (wf mn tg fe mk p q)) L R
  s2 : ∃ R, Sel (p, isL (rs.map V.int)) L R
  s3 : ∃ R, Sel (q, isL us) L R
structure WAt (K : PySem.W.Frag) : Prop where
  cl : Cls K (CW K)
  n1 : NoAttr K (CW K) "many"
  n2 : NoAttr K (CW K) "together"
  n3 : NoAttr K (CW K) "fenced"
  n4 : NoAttr K (CW K) "mark"
  n5 : NoAttr K (CW K) "_results"
  n6 : NoAttr K (CW K) "_holds"
theorem wat (C : Cx0 K mg base) : WAt K :=
  ⟨(C.insC 43 List.mem_cons_self rfl).cl, He.noat_ok (C.says.fact 53 rfl), He.noat_ok (C.says.fact 54 rfl), He.noat_ok (C.says.fact 55 rfl), He.noat_ok (C.says.fact 56 rfl), He.noat_ok (C.says.fact 57 rfl), He.noat_ok (C.says.fact 58 rfl)⟩
abbrev s_Work___init__ : Stmt := inn 16 0
theorem sc_Work___init__ : FnScope ["self", "many", "together", "fenced"] ["self", "many", "together", "fenced"] (defScope s_Work___init__) := ⟨rfl, rfl, rfl, by decide +kernel, rfl, by decide +kernel, by decide +kernel⟩
def sp_init (K : PySem.W.Frag) : Sp := fun vs H Q E => ∃ (T : List (Addr × Str)) (L : List En) (x : Addr) (v1 v2 v3 : V) (T1 T2 T3 : String), vs = [.ref x, v1, v2, v3] ∧ Wd T H ((x, isI (CW K) []) :: L) ∧ IsTy K H v1 T1 ∧ IsTy K H v2 T2 ∧ IsTy K H v3 T3 ∧
  (inB 0 100 v1 = false → Refuse T L (cBad0 K) "name" "many" H E) ∧ (inB 0 100 v1 = true → isBlV v2 = false → Refuse T L (cBad0 K) "name" "together" H E) ∧ (inB 0 100 v1 = true → isBlV v2 = true → isBlV v3 = false → Refuse T L (cBad0 K) "name" "fenced" H E) ∧
  ∀ (mn : Int) (tg fe : Bool), v1 = .int mn → 0 ≤ mn → mn ≤ 100 → v2 = .bl tg → v3 = .bl fe → ∀ p q H', Le H H' → Wd T H' (fW K x p q mn tg fe 0 [] [.non] L) → Q .non H'
theorem ok_init (C : Cx0 K mg base) (o_BadArgument : OBad P w K mg base) : MakN P w K mg base 4 "Work" (He.ga K "Work") 1 ["together", "fenced"] (sp_init K) (fun vs zs => vs ++ zs) := by
  have c_demand := ok_demand (P := P) (w := w) C o_BadArgument
  have c_is_in := ok_is_in (P := P) (w := w) C
  obtain ⟨cl, n1, n2, n3, n4, n5, n6⟩ := wat C
  refine C.makN 22 44 42 1 (ks := ["together", "fenced"]) (gF := fun us ws => us ++ ws) rfl rfl rfl sc_Work___init__ (fun r1 r2 => r1.append r2) (fun _ _ _ _ _ _ us ws h1 h2 => match us, h1, ws, h2 with | [_, _], _, [_, _], _ => rfl) (fun vs H Q E h => ?_) (fun f cdv A outer s H vs Q E hr h => ⟨_,
    (pss_cons (ps_expr (pe_f c_demand hr (by first | decide | omega) (passes_call (takes_of rfl rfl rfl rfl) fun _ _ _ _ h => h) (pa_cons (pe_f c_is_in hr (by first | decide | omega) (passes_call (takes_of rfl rfl rfl rfl) fun _ _ _ _ h => h) (pa_cons (pv 1) (pa_cons pe_int (pa_cons (pe_gi (C.int 39)) pa_nil)))) (pa_cons pe_str pa_nil))))
      (pss_cons (ps_expr (pe_f c_demand hr (by first | decide | omega) (passes_call (takes_of rfl rfl rfl rfl) fun _ _ _ _ h => h) (pa_cons (pe_bi (k_isi (K := K) rfl) (C.free 26) (by decide +kernel) (pa_cons (pv 2) (pa_cons (pe_ty "bool" (C.free 30)) pa_nil))) (pa_cons pe_str pa_nil))))
      (pss_cons (ps_expr (pe_f c_demand hr (by first | decide | omega) (passes_call (takes_of rfl rfl rfl rfl) fun _ _ _ _ h => h) (pa_cons (pe_bi (k_isi (K := K) rfl) (C.free 26) (by decide +kernel) (pa_cons (pv 3) (pa_cons (pe_ty "bool" (C.free 30)) pa_nil))) (pa_cons pe_str pa_nil))))
      (pss_cons (k_sfld (K := K) rfl (pv 0) (pv 1))
      (pss_cons (k_sfld (K := K) rfl (pv 0) (pv 2))
      (pss_cons (k_sfld (K := K) rfl (pv 0) (pv 3))
      (pss_cons (k_sfld (K := K) rfl (pv 0) pe_int)
      (pss_cons (k_sfld (K := K) rfl (pv 0) (pe_lst pa_nil))
      (pss_one (k_sfld (K := K) rfl (pv 0) (pe_lst (pa_cons pe_non pa_nil)))))))))))), ?_⟩)
  · obtain ⟨T, L, x, v1, v2, v3, T1, T2, T3, rfl, _⟩ := h
    rfl
  · obtain ⟨T, L, x, v1, v2, v3, T1, T2, T3, rfl, w0, t1, t2, t3, k1, k2, k3, k⟩ := h
    repeat walk_at "go"
    refine k_is_in t1 ?_
    repeat walk_at "go"
    refine k_demand w0.tail (fun e1 => ?_) k1
    repeat walk_at "go"
    refine r_isiK t2 (by decide) ?_
    rw [isBl_ty t2]
    repeat walk_at "go"
    refine k_demand w0.tail (fun e2 => ?_) (k2 e1)
    repeat walk_at "go"
    refine r_isiK t3 (by decide) ?_
    rw [isBl_ty t3]
    repeat walk_at "go"
    refine k_demand w0.tail (fun e3 => ?_) (k3 e1 e2)
    obtain ⟨mn, rfl⟩ : ∃ mn, v1 = .int mn := by cases v1 <;> first | exact ⟨_, rfl⟩ | cases e1
    obtain ⟨tg, rfl⟩ : ∃ tg, v2 = .bl tg := by cases v2 <;> first | exact ⟨_, rfl⟩ | cases e2
    obtain ⟨fe, rfl⟩ : ∃ fe, v3 = .bl fe := by cases v3 <;> first | exact ⟨_, rfl⟩ | cases e3
    have := inB_int.mp e1
    repeat walk_at "go"
    exact k mn tg fe rfl this.1 this.2 rfl rfl _ _ _ (by walk_at "le") (by walk_at "wdD")
abbrev s_Work_results : Stmt := inn 16 1
theorem sc_Work_results : FnScope ["self"] ["self"] (defScope s_Work_results) := ⟨rfl, rfl, rfl, by decide +kernel, rfl, by decide +kernel, by decide +kernel⟩
def sp_results (K : PySem.W.Frag) : Sp := fun vs H Q _ => ∃ T L a p q mn tg fe mk rs us, vs = [.ref a] ∧ Wd T H L ∧ HasW K L a p q mn tg fe mk rs us ∧ ∀ t H', Le H H' → Wd T H' L → Tu H' t (rs.map V.int) → Q (.ref t) H'
theorem ok_results (C : Cx0 K mg base) : PrpE P w K mg base 1 (He.ga K "Work") "results" ["self"] (sp_results K) := by
  obtain ⟨cl, n1, n2, n3, n4, n5, n6⟩ := wat C
  refine C.prpE (qual := "Work.results") 0 43 rfl (by decide +kernel) rfl sc_Work_results (fun _ _ _ _ _ _ us hl => match us, hl with | [_], _ => rfl) (fun vs H Q E h => ?_) (fun f cdv A outer s H vs Q E hr h => ⟨_, PSs.nox
    (pss_one (ps_ret (pe_bt (k_tuple (K := K) rfl) (C.free 28) (by decide +kernel) (pa_cons (k_fld (K := K) rfl (pv 0)) pa_nil)))), ?_⟩)
  · obtain ⟨T, L, a, p, q, mn, tg, fe, mk, rs, us, rfl, _⟩ := h
    rfl
  · obtain ⟨T, L, a, p, q, mn, tg, fe, mk, rs, us, rfl, w0, ⟨⟨R1, s1⟩, ⟨R2, s2⟩, ⟨R3, s3⟩⟩, k⟩ := h
    repeat walk_at "go"
    exact k _ _ (by walk_at "le") (by walk_at "wd") (by walk_at "tu")
abbrev s_Work_holds : Stmt := inn 16 3
theorem sc_Work_holds : FnScope ["self"] ["self"] (defScope s_Work_holds) := ⟨rfl, rfl, rfl, by decide +kernel, rfl, by decide +kernel, by decide +kernel⟩
def sp_holds (K : PySem.W.Frag) : Sp := fun vs H Q _ => ∃ T L a p q mn tg fe mk rs us, vs = [.ref a] ∧ Wd T H L ∧ HasW K L a p q mn tg fe mk rs us ∧ ∀ t H', Le H H' → Wd T H' L → Tu H' t us → Q (.ref t) H'
theorem ok_holds (C : Cx0 K mg base) : PrpE P w K mg base 1 (He.ga K "Work") "holds" ["self"] (sp_holds K) := by
  obtain ⟨cl, n1, n2, n3, n4, n5, n6⟩ := wat C
  refine C.prpE (qual := "Work.holds") 2 43 rfl (by decide +kernel) rfl sc_Work_holds (fun _ _ _ _ _ _ us hl => match us, hl with | [_], _ => rfl) (fun vs H Q E h => ?_) (fun f cdv A outer s H vs Q E hr h => ⟨_, PSs.nox
    (pss_one (ps_ret (pe_bt (k_tuple (K := K) rfl) (C.free 28) (by decide +kernel) (pa_cons (k_fld (K := K) rfl (pv 0)) pa_nil)))), ?_⟩)
  · obtain ⟨T, L, a, p, q, mn, tg, fe, mk, rs, us, rfl, _⟩ := h
    rfl
  · obtain ⟨T, L, a, p, q, mn, tg, fe, mk, rs, us, rfl, w0, ⟨⟨R1, s1⟩, ⟨R2, s2⟩, ⟨R3, s3⟩⟩, k⟩ := h
    repeat walk_at "go"
    exact k _ _ (by walk_at "le") (by walk_at "wd") (by walk_at "tu")
abbrev s_Work_newest : Stmt := inn 16 2
theorem sc_Work_newest : FnScope ["self"] ["self"] (defScope s_Work_newest) := ⟨rfl, rfl, rfl, by decide +kernel, rfl, by decide +kernel, by decide +kernel⟩
def sp_newest (K : PySem.W.Frag) : Sp := fun vs H Q _ => ∃ T L a p q mn tg fe mk rs us, vs = [.ref a] ∧ Wd T H L ∧ HasW K L a p q mn tg fe mk rs us ∧ Q (.int ((us.length : Int) - 1)) H
theorem ok_newest (C : Cx0 K mg base) : PrpE P w K mg base 1 (He.ga K "Work") "newest" ["self"] (sp_newest K) := by
  obtain ⟨cl, n1, n2, n3, n4, n5, n6⟩ := wat C
  refine C.prpE (qual := "Work.newest") 1 43 rfl (by decide +kernel) rfl sc_Work_newest (fun _ _ _ _ _ _ us hl => match us, hl with | [_], _ => rfl) (fun vs H Q E h => ?_) (fun f cdv A outer s H vs Q E hr h => ⟨_, PSs.nox
    (pss_one (ps_ret (pe_op op_sub (pe_bi (k_lenB (K := K) rfl) (C.free 31) (by decide +kernel) (pa_cons (k_fld (K := K) rfl (pv 0)) pa_nil)) pe_int))), ?_⟩)
  · obtain ⟨T, L, a, p, q, mn, tg, fe, mk, rs, us, rfl, _⟩ := h
    rfl
  · obtain ⟨T, L, a, p, q, mn, tg, fe, mk, rs, us, rfl, w0, ⟨⟨R1, s1⟩, ⟨R2, s2⟩, ⟨R3, s3⟩⟩, k⟩ := h
    repeat walk_at "go"
    exact k
def toldD (mn : Int) (tg fe : Bool) (mk : Int) (rs : List Int) (ds : List PyData) : PyData := .tuple [.int mn, .bool tg, .bool fe, .int mk, .tuple (dI rs), .tuple ds]
abbrev s_Work_told : Stmt := inn 16 4
theorem sc_Work_told : FnScope ["self"] ["self"] (defScope s_Work_told) := ⟨rfl, rfl, rfl, by decide +kernel, rfl, by decide +kernel, by decide +kernel⟩
def sp_told (K : PySem.W.Frag) : Sp := fun vs H Q _ => ∃ T L a p q mn tg fe mk rs us ds, vs = [.ref a] ∧ Wd T H L ∧ HasW K L a p q mn tg fe mk rs us ∧ PdA H us ds ∧ ∀ t H', Le H H' → Wd T H' L → Pd H' (.ref t) (toldD mn tg fe mk rs ds) → Q (.ref t) H'
theorem ok_told (C : Cx0 K mg base) : MetE P w K mg base 3 (He.ga K "Work") "told" ["self"] (sp_told K) := by
  have p_results := ok_results (P := P) (w := w) C
  have p_holds := ok_holds (P := P) (w := w) C
  obtain ⟨cl, n1, n2, n3, n4, n5, n6⟩ := wat C
  refine C.met 23 45 43 rfl rfl rfl sc_Work_told (fun _ _ _ _ _ _ us hl => match us, hl with | [_], _ => rfl) (fun vs H Q E h => ?_) (fun f cdv A outer s H vs Q E hr h => ⟨_, PSs.nox
    (pss_one (ps_ret (pe_tup (pa_cons (k_fld (K := K) rfl (pv 0)) (pa_cons (k_fld (K := K) rfl (pv 0)) (pa_cons (k_fld (K := K) rfl (pv 0)) (pa_cons (k_fld (K := K) rfl (pv 0)) (pa_cons (pe_pr p_results hr (by first | decide | omega) passP (pv 0)) (pa_cons (pe_pr p_holds hr (by first | decide | omega) passP (pv 0)) pa_nil))))))))), ?_⟩)
  · obtain ⟨T, L, a, p, q, mn, tg, fe, mk, rs, us, ds, rfl, _⟩ := h
    rfl
  · obtain ⟨T, L, a, p, q, mn, tg, fe, mk, rs, us, ds, rfl, w0, hw, hd, k⟩ := h
    obtain ⟨⟨R1, s1⟩, ⟨R2, s2⟩, ⟨R3, s3⟩⟩ := id hw
    repeat walk_at "go"
    refine ⟨T, L, a, p, q, mn, tg, fe, mk, rs, us, rfl, w0, hw, fun t H1 l1 w1 h1 => ?_⟩
    repeat walk_at "go"
    refine ⟨T, L, a, p, q, mn, tg, fe, mk, rs, us, rfl, w1, hw, fun t2 H2 l2 w2 h2 => ?_⟩
    repeat walk_at "go"
    exact k _ _ (by walk_at "le") (by walk_at "wd") (.tup (by walk_at "tu") (.cons (.int _) (.cons (.bl _) (.cons (.bl _) (.cons (.int _) (.cons (.tup (by walk_at "tu") (pd_ints _)) (.cons (.tup (by walk_at "tu") (by walk_at "pda")) .nil)))))))
end
end K82

local macro_rules | `(tactic| walk_at "wdD") => `(tactic| ((with_reducible apply Wd.pk); (with_reducible assumption); walk_at "pkD"))
local macro_rules | `(tactic| walk_at "ws") => `(tactic| (with_reducible assumption; walk_at "sel"))
local macro_rules | `(tactic| walk_at "lk") => `(tactic| with_unfolding_all rfl)

namespace K82
section
variable {P : Program} {w : World} {K : PySem.W.Frag} {mg : Str → Option Value} {base : Heap}
theorem told_sm {mn : Int} {tg fe : Bool} {mk : Int} {rs : List Int} {ds : List PyData} (h1 : 0 ≤ mn) (h2 : mn ≤ 1000) (h3 : 0 ≤ mk) (h4 : mk ≤ 1000) (h5 : rs.length ≤ 200) (h6 : ∀ n ∈ rs, 0 ≤ n ∧ n ≤ 1000) (h7 : SmA 1 9000 ds) : Sm 3 120000 (toldD mn tg fe mk rs ds) := by
  have i1 := SmA.ints (ns := rs) fun n hn => by have := h6 n hn; omega
  have e := (SmA.cons (Sm.int (i := mn) (by omega)) (SmA.cons (Sm.bl tg) (SmA.cons (Sm.bl fe) (SmA.cons (Sm.int (i := mk) (by omega)) (SmA.cons (Sm.tup i1) (SmA.cons (Sm.tup h7) .nil))))))
  exact (Sm.tup e).mono (by decide) (by omega)
/-- small holds -/
def HoldsOk (hs : List Hold) : Prop := 1 ≤ hs.length ∧ hs.length ≤ 12 ∧ ∀ h ∈ hs, ∀ n b, h = some (n, b) → 0 ≤ n ∧ n ≤ 1000
theorem holds_sm {hs : List Hold} (h : HoldsOk hs) : SmA 1 9000 (hs.map holdD) := by
  have := SmA.all (d := 1) (w := 700) (ps := hs.map holdD) fun p hp => by
    obtain ⟨x, hx, rfl⟩ := List.mem_map.mp hp
    match x with
    | none => exact Sm.non.mono (by decide) (by decide)
    | some (n, b) => exact (Sm.tup (SmA.cons (Sm.int (i := n) (by have := h.2.2 _ hx n b rfl; omega)) (SmA.cons (Sm.bl b) .nil))).mono (by decide) (by decide)
  refine this.mono (by decide) ?_
  rw [List.length_map]
  have := h.2.1
  have : hs.length * 701 ≤ 12 * 701 := Nat.mul_le_mul_right _ this
  omega
theorem holdD_inj : ∀ {x y : Hold}, PyData.eqv (holdD x) (holdD y) = decide (x = y)
  | none, none => by simp [holdD, PyData.eqv]
  | none, some (n, b) => by simp [holdD, PyData.eqv]
  | some (n, b), none => by simp [holdD, PyData.eqv]
  | some (n, b), some (m, c) => by
    simp only [holdD, PyData.eqv, PyData.eqvAll, Bool.and_true]
    rw [Bool.eq_iff_iff]
    simp
theorem holds_eqv : ∀ {xs ys : List Hold}, PyData.eqvAll (xs.map holdD) (ys.map holdD) = decide (xs = ys)
  | [], [] => by simp [PyData.eqvAll]
  | [], y :: ys => by simp [PyData.eqvAll]
  | x :: xs, [] => by simp [PyData.eqvAll]
  | x :: xs, y :: ys => by
    simp only [List.map_cons, PyData.eqvAll, holdD_inj, holds_eqv (xs := xs) (ys := ys)]
    rw [Bool.eq_iff_iff]
    simp
/-- all of a work that can be told -/
structure Bnd (mn : Int) (st : WS) : Prop where
  m0 : 0 ≤ mn
  m1 : mn ≤ 100
  k0 : 0 ≤ st.mrk
  k1 : st.mrk ≤ 1000
  rl : st.rs.length ≤ 200
  rn : ∀ n ∈ st.rs, 0 ≤ n ∧ n ≤ 1000
  ho : HoldsOk st.hs
theorem Bnd.sm {mn : Int} {st : WS} (b : Bnd mn st) (tg fe : Bool) : Sm 3 120000 (toldD mn tg fe st.mrk st.rs (st.hs.map holdD)) := told_sm b.m0 (by have := b.m1; omega) b.k0 b.k1 b.rl b.rn (holds_sm b.ho)
abbrev s_Work___eq__ : Stmt := inn 16 5
theorem sc_Work___eq__ : FnScope ["self", "other"] ["self", "other"] (defScope s_Work___eq__) := ⟨rfl, rfl, rfl, by decide +kernel, rfl, by decide +kernel, by decide +kernel⟩
def sp_eq (K : PySem.W.Frag) : Sp := fun vs H Q _ => (∃ T L a p q mn tg fe, ∃ (st : WS) (us : List V) (b p' q' : Addr) (mn' : Int) (tg' fe' : Bool) (st' : WS) (us' : List V), vs = [.ref a, .ref b] ∧ Wd T H L ∧ HasW K L a p q mn tg fe st.mrk st.rs us ∧ HasW K L b p' q' mn' tg' fe' st'.mrk st'.rs us' ∧ PdA H us (st.hs.map holdD) ∧ PdA H us' (st'.hs.map holdD) ∧ Bnd mn st ∧ Bnd mn' st' ∧
  ∀ H', Le H H' → Wd T H' L → Q (.bl (decide (mn = mn' ∧ tg = tg' ∧ fe = fe' ∧ st.mrk = st'.mrk ∧ st.rs = st'.rs ∧ st.hs = st'.hs))) H') ∨ (∃ a, vs = [.ref a, .non] ∧ Q (.bl false) H)
theorem ok_eq (C : Cx0 K mg base) (kitN : PySem.W.kitOne K (.type "NoneType") (.ref (CW K)) = some false) : MetE P w K mg base 4 (He.ga K "Work") "__eq__" ["self", "other"] (sp_eq K) := by
  have m_told := ok_told (P := P) (w := w) C
  have insC := C.insC (x := "Work") 43 List.mem_cons_self rfl
  refine (C.met2 24 46 43 rfl rfl rfl sc_Work___eq__ rfl (fun _ _ _ _ _ _ us hl => match us, hl with | [_, _], _ => rfl) (fun _ _ _ _ _ _ _ ws hl => match ws, hl with | [_], _ => rfl) (fun vs H Q E h => ?_) (fun f cdv A outer s H vs Q E hr h => ⟨_, PSs.nox
    (pss_one (ps_ret (pe_and (pe_bi (k_isCN (K := K) rfl insC kitN) (C.free 26) (by decide +kernel) (pa_cons (pv 1) (pa_cons (pe_glob (v := .ref _) rfl (He.glo_ok C.kin C.glob (C.says.fact 42 rfl)) rfl) pa_nil))) (pe_one (pe_cmpR (k_eq (K := K) rfl hr) (pe_me0 m_told hr (by first | decide | omega) passL (pv 0)) (pe_me0 m_told hr (by first | decide | omega) passL (pv 1)) (nomark _)))))), ?_⟩)).1
  · rcases h with ⟨T, L, a, p, q, mn, tg, fe, st, us, b, p', q', mn', tg', fe', st', us', rfl, _⟩ | ⟨a, rfl, _⟩ <;> rfl
  · rcases h with ⟨T, L, a, p, q, mn, tg, fe, st, us, b, p', q', mn', tg', fe', st', us', rfl, w0, h1, h2, d1, d2, b1, b2, k⟩ | ⟨a, rfl, k⟩
    · obtain ⟨⟨R1, s1⟩, ⟨R2, s2⟩, ⟨R3, s3⟩⟩ := id h1
      obtain ⟨⟨R4, s4⟩, ⟨R5, s5⟩, ⟨R6, s6⟩⟩ := id h2
      repeat walk_at "go"
      refine .inl (r_isC (w0.ins s4).choose_spec ?_)
      repeat walk_at "go"
      refine ⟨T, L, a, p, q, mn, tg, fe, st.mrk, st.rs, us, _, rfl, w0, h1, d1, fun t H1 l1 w1 e1 => ?_⟩
      repeat walk_at "go"
      refine ⟨T, L, b, p', q', mn', tg', fe', st'.mrk, st'.rs, us', _, rfl, w1, h2, d2.le l1, fun t2 H2 l2 w2 e2 => ?_⟩
      refine n_eq (e1.le l2).dp e2.dp ((b1.sm _ _).shaped (by decide)) ((b2.sm _ _).shaped (by decide)) ?_
      have e : PyData.eqv (toldD mn tg fe st.mrk st.rs (st.hs.map holdD)) (toldD mn' tg' fe' st'.mrk st'.rs (st'.hs.map holdD)) = decide (mn = mn' ∧ tg = tg' ∧ fe = fe' ∧ st.mrk = st'.mrk ∧ st.rs = st'.rs ∧ st.hs = st'.hs) := by
        simp only [toldD, PyData.eqv, PyData.eqvAll, eqv_I, holds_eqv, Bool.and_true]
        rw [Bool.eq_iff_iff]
        simp
      rw [e]
      exact k _ (l1.trans l2) w2
    · repeat walk_at "go"
      refine .inr ⟨rfl, ?_⟩
      repeat walk_at "go"
      exact k
abbrev s_Work_twin : Stmt := inn 16 6
theorem sc_Work_twin : FnScope ["self", "found"] ["self"] (defScope s_Work_twin) := ⟨rfl, rfl, rfl, by decide +kernel, rfl, by decide +kernel, by decide +kernel⟩
def sp_twin (K : PySem.W.Frag) : Sp := fun vs H Q _ => ∃ T L a p q mn tg fe mk rs us, vs = [.ref a] ∧ Wd T H L ∧ HasW K L a p q mn tg fe mk rs us ∧ 0 ≤ mn ∧ mn ≤ 100 ∧ ∀ b p' q' H', Le H H' → Wd T H' (fW K b p' q' mn tg fe mk rs us L) → Q (.ref b) H'
theorem ok_twin (C : Cx0 K mg base) (o_BadArgument : OBad P w K mg base) : MetE P w K mg base 6 (He.ga K "Work") "twin" ["self"] (sp_twin K) := by
  have mkn_Work := ok_init (P := P) (w := w) C o_BadArgument
  obtain ⟨cl, n1, n2, n3, n4, n5, n6⟩ := wat C
  refine C.met 25 47 43 rfl rfl rfl sc_Work_twin (fun _ _ _ _ _ _ us hl => match us, hl with | [_], _ => rfl) (fun vs H Q E h => ?_) (fun f cdv A outer s H vs Q E hr h => ⟨_, PSs.nox
    (pss_cons (ps_set (i := 1) sc_Work_twin.nd rfl (Or.inl rfl) (pe_mkN mkn_Work hr (by first | decide | omega) passL (pa_cons (k_fld (K := K) rfl (pv 0)) pa_nil) (pk_cons (k_fld (K := K) rfl (pv 0)) (pk_cons (k_fld (K := K) rfl (pv 0)) pk_nil))))
      (pss_cons (k_sfld (K := K) rfl (pv 1) (k_fld (K := K) rfl (pv 0)))
      (pss_cons (k_sfld (K := K) rfl (pv 1) (pe_bt (k_list (K := K) rfl) (C.free 29) (by decide +kernel) (pa_cons (k_fld (K := K) rfl (pv 0)) pa_nil)))
      (pss_cons (k_sfld (K := K) rfl (pv 1) (pe_bt (k_list (K := K) rfl) (C.free 29) (by decide +kernel) (pa_cons (k_fld (K := K) rfl (pv 0)) pa_nil)))
      (pss_one (ps_ret (pv 1))))))), ?_⟩)
  · obtain ⟨T, L, a, p, q, mn, tg, fe, mk, rs, us, rfl, _⟩ := h
    rfl
  · obtain ⟨T, L, a, p, q, mn, tg, fe, mk, rs, us, rfl, w0, ⟨⟨R1, s1⟩, ⟨R2, s2⟩, ⟨R3, s3⟩⟩, m0, m1, k⟩ := h
    repeat walk_at "go"
    refine ⟨_, _, _, _, _, _, "int", "bool", "bool", rfl, by assumption, .int _, .bl _, .bl _, (fun e => ?_), (fun _ e => nomatch e), (fun _ _ e => nomatch e), fun mn' tg' fe' e1 _ _ e2 e3 p' q' H1 l1 w1 => ?_⟩
    · rw [inB_yes m0 m1] at e
      cases e
    cases e1
    cases e2
    cases e3
    refine ⟨rfl, ?_⟩
    repeat walk_at "go"
    exact k _ _ _ _ (by walk_at "le") (by walk_at "wdD")
end
end K82

local macro_rules | `(tactic| walk_at "wdD") => `(tactic| ((with_reducible apply Wd.pk); (with_reducible assumption); walk_at "pkD"))
local macro_rules | `(tactic| walk_at "ws") => `(tactic| (with_reducible assumption; walk_at "sel"))
local macro_rules | `(tactic| walk_at "lk") => `(tactic| with_unfolding_all rfl)

namespace K82
section
variable {P : Program} {w : World} {K : PySem.W.Frag} {mg : Str → Option Value} {base : Heap}
theorem PdA.set {H : Hp} {v : V} {p : PyData} : ∀ {vs : List V} {ds : List PyData} (n : Nat), PdA H vs ds → Pd H v p → PdA H (vs.set n v) (ds.set n p)
  | [], [], _, .nil, _ => .nil
  | _ :: _, _ :: _, 0, .cons _ t, k => .cons k t
  | _ :: _, _ :: _, n + 1, .cons h t, k => .cons h (PdA.set n t k)
/-! ### plain steps -/
inductive Stp where
  | nxt
  | on (x : Str) (n : Nat)
def words : List Str := ["take", "write", "mark", "drop"]
def stpD : Stp → PyData
  | .nxt => .tuple [.str "next"]
  | .on x n => .tuple [.str x, .int n]
def wordOf : Stp → Str
  | .nxt => "next"
  | .on x _ => x
def OkS : Stp → Prop
  | .nxt => True
  | .on x n => x ∈ words ∧ n ≤ 11
def argD : List PyData → Bool
  | [.int i] => decide (0 ≤ i) && decide (i ≤ 11)
  | _ => false
def stepB : PyData → Bool
  | .tuple (.str x :: r) => if x = "next" then decide (r.length = 0) else decide (x ∈ words) && argD r
  | _ => false
theorem stepB_next {x : Str} {r : List PyData} (c : x = "next") : stepB (.tuple (.str x :: r)) = decide (r.length = 0) := by
  show (if x = "next" then _ else _) = _
  rw [if_pos c]
theorem stepB_on {x : Str} {r : List PyData} (c : ¬ x = "next") : stepB (.tuple (.str x :: r)) = (decide (x ∈ words) && argD r) := by
  show (if x = "next" then _ else _) = _
  rw [if_neg c]
theorem words_ne {x : Str} (h : x ∈ words) : ¬ x = "next" := by
  intro e
  subst e
  exact absurd h (by decide +kernel)
theorem stepB_ok : ∀ {s : Stp}, OkS s → stepB (stpD s) = true
  | .nxt, _ => by decide +kernel
  | .on x n, ⟨h1, h2⟩ => by
    show stepB (.tuple (.str x :: [.int (n : Int)])) = true
    rw [stepB_on (words_ne h1), decide_eq_true h1]
    show (decide (0 ≤ (n : Int)) && decide ((n : Int) ≤ 11)) = true
    rw [decide_eq_true (by omega), decide_eq_true (by omega)]
    rfl
theorem stepB_cases {d : PyData} (h : stepB d = true) : ∃ s, OkS s ∧ d = stpD s := by
  match d, h with
  | .tuple (.str x :: r), h =>
    by_cases c : x = "next"
    · rw [stepB_next c] at h
      have := of_decide_eq_true h
      rw [List.length_eq_zero_iff.mp this, c]
      exact ⟨.nxt, trivial, rfl⟩
    · rw [stepB_on c, Bool.and_eq_true] at h
      obtain ⟨h1, h2⟩ := h
      match r, h2 with
      | [.int i], h2 =>
        have h2 : (decide (0 ≤ i) && decide (i ≤ 11)) = true := h2
        rw [Bool.and_eq_true, decide_eq_true_iff, decide_eq_true_iff] at h2
        obtain ⟨n, rfl⟩ := Int.eq_ofNat_of_zero_le h2.1
        exact ⟨.on x n, ⟨of_decide_eq_true h1, by omega⟩, rfl⟩
theorem stpD_shaped (s : Stp) : SeqAt.shaped (stpD s) = true ∨ ∃ x n, s = .on x n := by
  cases s
  · exact .inl (by decide +kernel)
  · exact .inr ⟨_, _, rfl⟩
theorem Pd.on {H : Hp} {v : V} {x : Str} {n : Nat} (h : Pd H v (stpD (.on x n))) : ∃ b, v = .ref b ∧ Tu H b [.str x, .int n] := by
  obtain ⟨b, us, rfl, h1, h2⟩ := Pd.tupV h
  match us, h2 with
  | [_, _], .cons a (.cons c .nil) =>
    rw [a.strV, c.intV] at h1
    exact ⟨b, rfl, h1⟩
theorem Pd.nx {H : Hp} {v : V} (h : Pd H v (stpD .nxt)) : ∃ b, v = .ref b ∧ Tu H b [.str "next"] := by
  obtain ⟨b, us, rfl, h1, h2⟩ := Pd.tupV h
  match us, h2 with
  | [_], .cons a .nil =>
    rw [a.strV] at h1
    exact ⟨b, rfl, h1⟩
theorem inV_words (x : Str) : inV (.str x) [.str "take", .str "write", .str "mark", .str "drop"] = decide (x ∈ words) := by
  rw [Bool.eq_iff_iff, decide_eq_true_iff]
  simp only [inV, List.any_cons, List.any_nil, eqV, Bool.or_eq_true, decide_eq_true_iff, words, List.mem_cons, List.not_mem_nil, or_false, Bool.false_eq_true]
  constructor
  · rintro (h | h | h | h)
    · exact .inl (beq_iff_eq.mp h).symm
    · exact .inr (.inl (beq_iff_eq.mp h).symm)
    · exact .inr (.inr (.inl (beq_iff_eq.mp h).symm))
    · exact .inr (.inr (.inr (beq_iff_eq.mp h).symm))
  · rintro (h | h | h | h)
    · exact .inl (beq_iff_eq.mpr h.symm)
    · exact .inr (.inl (beq_iff_eq.mpr h.symm))
    · exact .inr (.inr (.inl (beq_iff_eq.mpr h.symm)))
    · exact .inr (.inr (.inr (beq_iff_eq.mpr h.symm)))
abbrev s_Work_is_step : Stmt := inn 16 7
theorem sc_Work_is_step : FnScope ["self", "step"] ["self", "step"] (defScope s_Work_is_step) := ⟨rfl, rfl, rfl, by decide +kernel, rfl, by decide +kernel, by decide +kernel⟩
def sp_is_step (K : PySem.W.Frag) : Sp := fun vs H Q _ => ∃ a v d, vs = [.ref a, v] ∧ Dp K H v d ∧ SeqAt.shaped d = true ∧ ∀ H', Ex H H' → Q (.bl (stepB d)) H'
theorem ok_is_step (C : Cx0 K mg base) (wd : He.tupB K "WORDS" [.str "take", .str "write", .str "mark", .str "drop"] = true) : MetE P w K mg base 3 (He.ga K "Work") "is_step" ["self", "step"] (sp_is_step K) := by
  have c_is_in := ok_is_in (P := P) (w := w) C
  have c_is_tuple_of := ok_is_tuple_of (P := P) (w := w) C
  refine (C.met2 26 48 43 rfl rfl rfl sc_Work_is_step rfl (fun _ _ _ _ _ _ us hl => match us, hl with | [_, _], _ => rfl) (fun _ _ _ _ _ _ _ ws hl => match ws, hl with | [_], _ => rfl) (fun vs H Q E h => ?_) (fun f cdv A outer s H vs Q E hr h => ⟨_, PSs.nox
    (pss_cons (ps_if (PW.pt (pw_or (pt_not (k_truth (K := K) rfl (pe_bi (k_isi (K := K) rfl) (C.free 26) (by decide +kernel) (pa_cons (pv 1) (pa_cons (pe_ty "tuple" (C.free 28)) pa_nil))) (by intro _; rfl))) (pw_or (pt_cmpR (k_eq (K := K) rfl hr) (pv 1) (pe_tup pa_nil) (nomark _)) (pw_or1 (pt_not (k_truth (K := K) rfl (pe_bi (k_isi (K := K) rfl) (C.free 26) (by decide +kernel) (pa_cons (pe_ix (k_ixB (K := K) rfl hr) (pv 1) pe_int (fun _ _ => rfl)) (pa_cons (pe_ty "str" (C.free 37)) pa_nil))) (by intro _; rfl))))))) (pss_one (ps_ret pe_bl)) pss_nil)
      (pss_cons (ps_if (pt_cmpR (k_eq (K := K) rfl hr) (pe_ix (k_ixB (K := K) rfl hr) (pv 1) pe_int (fun _ _ => rfl)) pe_str (nomark _)) (pss_one (ps_ret (pe_cmpR (k_eq (K := K) rfl hr) (pe_bi (k_lenB (K := K) rfl) (C.free 31) (by decide +kernel) (pa_cons (pv 1) pa_nil)) pe_int (nomark _)))) pss_nil)
      (pss_one (ps_ret (pe_and (pe_cmpR (k_inB (K := K) rfl hr) (pe_ix (k_ixB (K := K) rfl hr) (pv 1) pe_int (fun _ _ => rfl)) (pe_glob (v := .ref _) rfl (He.glo_ok C.kin C.glob (C.says.fact 41 rfl)) rfl) (by rfl)) (pe_and (pe_f c_is_tuple_of hr (by first | decide | omega) passL (pa_cons (pv 1) (pa_cons pe_int pa_nil))) (pe_one (pe_f c_is_in hr (by first | decide | omega) passL (pa_cons (pe_ix (k_ixB (K := K) rfl hr) (pv 1) pe_int (fun _ _ => rfl)) (pa_cons pe_int (pa_cons (pe_op op_sub (pe_gi (C.int 40)) pe_int) pa_nil))))))))))), ?_⟩)).1
  · obtain ⟨a, v, d, rfl, _⟩ := h
    rfl
  · obtain ⟨a, v, d, rfl, dp, sh, k⟩ := h
    repeat walk_at "rd"
    refine r_isiK (Dp.ty dp) (by decide) ?_
    rw [isT_tup]
    cases dp with
    | tup ht hd =>
      rename_i b us ds
      repeat walk_at "rd"
      refine ⟨(show 0 ≤ sizeLine by decide), fun q hq => ?_⟩
      refine r_eqE (d := .tuple ds) (e := .tuple []) (.tup (sqT_up hq ht) (DpA.ex (Ex.new hq) hd)) (.tup sqT_new .nil) sh (by decide +kernel) ?_
      refine ⟨_, rfl, ?_⟩
      cases hd with
      | nil =>
        rw [show PyData.eqv (.tuple []) (.tuple []) = true from by decide +kernel]
        repeat walk_at "rd"
        exact k _ (Ex.new hq)
      | cons h0 hd =>
        rename_i v0 vs0 d0 ds0
        rw [show PyData.eqv (.tuple (d0 :: ds0)) (.tuple []) = false from by simp only [PyData.eqv, PyData.eqvAll]]
        repeat walk_at "rd"
        refine .inl (r_ixT (i := 0) (sqT_up hq ht) at_0 ?_)
        repeat walk_at "rd"
        refine r_isiK (Dp.ty (Dp.ex (Ex.new hq) h0)) (by decide) ?_
        rw [isT_str]
        cases h0 with
        | str x =>
          repeat walk_at "rd"
          refine .inl (r_ixT (i := 0) (sqT_up hq ht) at_0 ?_)
          repeat walk_at "rd"
          refine r_D (fun c => ?_) (fun c => ?_)
          · repeat walk_at "rd"
            refine .inl (r_lenT (sqT_up hq ht) ?_)
            repeat walk_at "rd"
            have := k _ (Ex.new (o := .tup []) hq)
            rw [stepB_next c] at this
            rw [List.length_cons, DpA.length hd]
            rw [show decide (((ds0.length + 1 : Nat) : Int) = 1) = decide (ds0.length = 0) by rw [Bool.eq_iff_iff, decide_eq_true_iff, decide_eq_true_iff]; omega]
            exact this
          · have k := k _ (Ex.new (o := .tup []) hq)
            rw [stepB_on c] at k
            repeat walk_at "rd"
            refine .inl (r_ixT (i := 0) (sqT_up hq ht) at_0 ?_)
            repeat walk_at "rd"
            refine b_in (r_inF (He.tupB_ok wd _) rfl rfl ?_)
            rw [show inV (.str x) ([He.Dv.str "take", .str "write", .str "mark", .str "drop"].map (He.Dv.v K)) = decide (x ∈ words) from inV_words x]
            refine ⟨_, rfl, ?_⟩
            refine r_D (fun c2 => ?_) (fun c2 => ?_)
            · rw [decide_eq_true c2, Bool.true_and] at k
              repeat walk_at "rd"
              refine ⟨_, .tuple (.str x :: ds0), 2, rfl, .tup (sqT_up hq ht) (.cons (.str x) (DpA.ex (Ex.new hq) hd)), ?_⟩
              refine ⟨_, rfl, ?_⟩
              cases hd with
              | nil =>
                refine r_F (show tupD 2 (.tuple [.str x]) = false from rfl) ?_
                exact k
              | @cons v1 vs1 d1 ds1 h1 hd =>
                cases hd with
                | nil =>
                  refine r_T (show tupD 2 (.tuple [.str x, d1]) = true from rfl) ?_
                  repeat walk_at "rd"
                  refine .inl (r_ixT (i := 1) (sqT_up hq ht) at_1 ?_)
                  repeat walk_at "rd"
                  refine ⟨v1, _, 0, 11, rfl, Dp.ty (Dp.ex (Ex.new hq) h1), ?_⟩
                  rw [inB_dp h1]
                  cases h1 <;> exact k
                | @cons v2 vs2 d2 ds2 h2 hd =>
                  refine r_F (show tupD 2 (.tuple (.str x :: d1 :: d2 :: ds2)) = false by unfold tupD; exact decide_eq_false (by simp only [List.length_cons]; omega)) ?_
                  cases d1 <;> exact k
            · rw [decide_eq_false c2, Bool.false_and] at k
              exact k
        | _ =>
          repeat walk_at "rd"
          exact k _ (Ex.new hq)
    | _ =>
      repeat walk_at "rd"
      exact k _ (Ex.refl _)
abbrev s_Work_write : Stmt := inn 16 10
theorem sc_Work_write : FnScope ["self", "worker", "number"] ["self", "worker"] (defScope s_Work_write) := ⟨rfl, rfl, rfl, by decide +kernel, rfl, by decide +kernel, by decide +kernel⟩
def sp_write (K : PySem.W.Frag) : Sp := fun vs H Q _ => ∃ (T : List (Addr × Str)) (F : List En) (a p q : Addr) (mn : Int) (tg fe : Bool) (mk : Int) (rs : List Int) (us : List V) (h : V) (n : Nat) (k : Int) (b : Bool), vs = [.ref a, .int n] ∧ Wd T H (fW K a p q mn tg fe mk rs us F) ∧ us[n]? = some h ∧ Pd H h (holdD (some (k, b))) ∧ rs.length < 1000000 ∧
  ∀ u H', Le H H' → Wd T H' (fW K a p q mn tg fe mk (if tg then rs else rs ++ [k]) (us.set n u) F) → Pd H' u (holdD (some (k, true))) → Q .non H'
theorem ok_write (C : Cx0 K mg base) : MetE P w K mg base 2 (He.ga K "Work") "write" ["self", "worker"] (sp_write K) := by
  obtain ⟨cl, n1, n2, n3, n4, n5, n6⟩ := wat C
  refine (C.met2 29 51 43 rfl rfl rfl sc_Work_write rfl (fun _ _ _ _ _ _ us hl => match us, hl with | [_, _], _ => rfl) (fun _ _ _ _ _ _ _ ws hl => match ws, hl with | [_], _ => rfl) (fun vs H Q E h => ?_) (fun f cdv A outer s H vs Q E hr h => ⟨_, PSs.nox
    (pss_cons (ps_set (i := 2) sc_Work_write.nd rfl (Or.inl rfl) (pe_ix (k_ixB (K := K) rfl hr) (pe_ix (k_ixB (K := K) rfl hr) (k_fld (K := K) rfl (pv 0)) (pv 1) (fun _ _ => rfl)) pe_int (fun _ _ => rfl)))
      (pss_cons (ps_if (pt_not (k_truth (K := K) rfl (k_fld (K := K) rfl (pv 0)) (by intro _; rfl))) (pss_one (ps_expr (k_append (K := K) rfl (k_fld (K := K) rfl (pv 0)) (pv 2)))) pss_nil)
      (pss_one (ps_asg (pe_tup (pa_cons (pv 2) (pa_cons pe_bl pa_nil))) (pg_sub (k_fld (K := K) rfl (pv 0)) (pv 1) (k_setB hr)))))), ?_⟩)).1
  · obtain ⟨T, F, a, p, q, mn, tg, fe, mk, rs, us, h, n, k, b, rfl, _⟩ := h
    rfl
  · obtain ⟨T, F, a, p, q, mn, tg, fe, mk, rs, us, h, n, k, b, rfl, w0, hu, hp, hl, kk⟩ := h
    obtain ⟨c, ys, rfl, t1, t2⟩ := hp.tupV
    match ys, t2 with
    | [_, _], .cons g1 (.cons g2 .nil) =>
    obtain rfl := g1.intV
    obtain rfl := g2.blV
    repeat walk_at "go"
    refine b_ixN (by assumption) (by walk_at "sel") hu ?_
    repeat walk_at "go"
    cases tg
    · repeat walk_at "go"
      refine n_appI (by assumption) (by walk_at "sel") hl fun H1 l1 w1 => ?_
      repeat walk_at "go"
      refine b_setL (by assumption) (by walk_at "sel") (List.getElem?_eq_some_iff.mp hu).choose fun H2 l2 w2 => ?_
      exact kk _ _ (by walk_at "le") (by walk_at "wdD") (.tup (by walk_at "tu") (.cons (.int _) (.cons (.bl _) .nil)))
    · repeat walk_at "go"
      refine b_setL (by assumption) (by walk_at "sel") (List.getElem?_eq_some_iff.mp hu).choose fun H2 l2 w2 => ?_
      exact kk _ _ (by walk_at "le") (by walk_at "wdD") (.tup (by walk_at "tu") (.cons (.int _) (.cons (.bl _) .nil)))
abbrev s_Work_end : Stmt := inn 16 11
theorem sc_Work_end : FnScope ["self", "worker", "number"] ["self", "worker"] (defScope s_Work_end) := ⟨rfl, rfl, rfl, by decide +kernel, rfl, by decide +kernel, by decide +kernel⟩
def sp_end (K : PySem.W.Frag) : Sp := fun vs H Q _ => ∃ (T : List (Addr × Str)) (F : List En) (a p q : Addr) (mn : Int) (tg fe : Bool) (mk : Int) (rs : List Int) (us : List V) (h : V) (n : Nat) (k : Int) (b : Bool), vs = [.ref a, .int n] ∧ Wd T H (fW K a p q mn tg fe mk rs us F) ∧ us[n]? = some h ∧ Pd H h (holdD (some (k, b))) ∧ rs.length < 1000000 ∧
  ∀ H', Le H H' → Wd T H' (if fe = true ∧ n + 1 ≠ us.length then fW K a p q mn tg fe mk rs (us.set n .non) F else fW K a p q mn tg fe (k + 1) (if tg then rs ++ [k] else rs) (us.set n .non) F) → Q .non H'
theorem ok_end (C : Cx0 K mg base) : MetE P w K mg base 3 (He.ga K "Work") "end" ["self", "worker"] (sp_end K) := by
  have p_newest := ok_newest (P := P) (w := w) C
  obtain ⟨cl, n1, n2, n3, n4, n5, n6⟩ := wat C
  refine (C.met2 30 52 43 rfl rfl rfl sc_Work_end rfl (fun _ _ _ _ _ _ us hl => match us, hl with | [_, _], _ => rfl) (fun _ _ _ _ _ _ _ ws hl => match ws, hl with | [_], _ => rfl) (fun vs H Q E h => ?_) (fun f cdv A outer s H vs Q E hr h => ⟨_, PSs.nox
    (pss_cons (ps_set (i := 2) sc_Work_end.nd rfl (Or.inl rfl) (pe_ix (k_ixB (K := K) rfl hr) (pe_ix (k_ixB (K := K) rfl hr) (k_fld (K := K) rfl (pv 0)) (pv 1) (fun _ _ => rfl)) pe_int (fun _ _ => rfl)))
      (pss_cons (ps_asg pe_non (pg_sub (k_fld (K := K) rfl (pv 0)) (pv 1) (k_setB hr)))
      (pss_cons (ps_if (PW.pt (pw_and (k_truth (K := K) rfl (k_fld (K := K) rfl (pv 0)) (by intro _; rfl)) (pw_and1 (pt_cmpR (k_ne (K := K) rfl hr) (pv 1) (pe_pr p_newest hr (by first | decide | omega) passP (pv 0)) (nomark _))))) (pss_one ps_retN) pss_nil)
      (pss_cons (ps_if (k_truth (K := K) rfl (k_fld (K := K) rfl (pv 0)) (by intro _; rfl)) (pss_one (ps_expr (k_append (K := K) rfl (k_fld (K := K) rfl (pv 0)) (pv 2)))) pss_nil)
      (pss_one (k_sfld (K := K) rfl (pv 0) (pe_op (k_add (K := K) rfl) (pv 2) pe_int))))))), ?_⟩)).1
  · obtain ⟨T, F, a, p, q, mn, tg, fe, mk, rs, us, h, n, k, b, rfl, _⟩ := h
    rfl
  · obtain ⟨T, F, a, p, q, mn, tg, fe, mk, rs, us, h, n, k, b, rfl, w0, hu, hp, hl, kk⟩ := h
    obtain ⟨c, ys, rfl, t1, t2⟩ := hp.tupV
    match ys, t2 with
    | [_, _], .cons g1 (.cons g2 .nil) =>
    obtain rfl := g1.intV
    obtain rfl := g2.blV
    have hn := (List.getElem?_eq_some_iff.mp hu).choose
    repeat walk_at "go"
    refine b_ixN (by assumption) (by walk_at "sel") hu ?_
    repeat walk_at "go"
    refine b_setL (by assumption) (by walk_at "sel") hn fun H1 l1 w1 => ?_
    repeat walk_at "go"
    cases fe
    · rw [if_neg (fun z => nomatch z.1)] at kk
      repeat walk_at "go"
      cases tg
      · repeat walk_at "go"
        exact kk _ (by walk_at "le") (by walk_at "wdD")
      · repeat walk_at "go"
        refine n_appI (by assumption) (by walk_at "sel") hl fun H2 l2 w2 => ?_
        repeat walk_at "go"
        exact kk _ (by walk_at "le") (by walk_at "wdD")
    · repeat walk_at "go"
      refine ⟨T, _, a, p, q, mn, tg, true, mk, rs, us.set n .non, rfl, w1, ⟨⟨_, by walk_at "sel"⟩, ⟨_, by walk_at "sel"⟩, ⟨_, by walk_at "sel"⟩⟩, ?_⟩
      rw [List.length_set]
      repeat walk_at "go"
      by_cases e : n + 1 = us.length
      · rw [if_neg (fun z => z.2 e)] at kk
        rw [decide_eq_true (show (n : Int) = (us.length : Int) - 1 by omega)]
        repeat walk_at "go"
        cases tg
        · repeat walk_at "go"
          exact kk _ (by walk_at "le") (by walk_at "wdD")
        · repeat walk_at "go"
          refine n_appI (by assumption) (by walk_at "sel") hl fun H2 l2 w2 => ?_
          repeat walk_at "go"
          exact kk _ (by walk_at "le") (by walk_at "wdD")
      · rw [if_pos ⟨rfl, e⟩] at kk
        rw [decide_eq_false (show ¬ (n : Int) = (us.length : Int) - 1 by omega)]
        repeat walk_at "go"
        exact kk _ (by walk_at "le") (by walk_at "wdD")
/-! ### what can be done, and what comes of it -/
def holdB (x : Str) : Hold → Bool
  | none => false
  | some (_, b) => decide (b = decide (x = "mark"))
def canH (mn mk : Int) (x : Str) (h : Hold) : Bool := if x = "take" then h.isNone && decide (mk < mn) else if x = "drop" then true else holdB x h
def canB (mn : Int) (st : WS) : Stp → Bool
  | .nxt => decide (st.hs.length < 12)
  | .on x n => match st.hs[n]? with
    | none => false
    | some h => canH mn st.mrk x h
theorem canB_on {mn : Int} {st : WS} {x : Str} {n : Nat} {h : Hold} (hh : st.hs[n]? = some h) : canB mn st (.on x n) = canH mn st.mrk x h := by
  show (match st.hs[n]? with | none => false | some h => canH mn st.mrk x h) = _
  rw [hh]
theorem canB_off {mn : Int} {st : WS} {x : Str} {n : Nat} (hh : st.hs.length ≤ n) : canB mn st (.on x n) = false := by
  show (match st.hs[n]? with | none => false | some h => canH mn st.mrk x h) = _
  rw [List.getElem?_eq_none hh]
theorem holds_at {H : Hp} {us : List V} {hs : List Hold} {n : Nat} (hu : PdA H us (hs.map holdD)) (c : n < us.length) : ∃ h u, us[n]? = some u ∧ hs[n]? = some h ∧ Pd H u (holdD h) := by
  have hu0 : us[n]? = some us[n] := List.getElem?_eq_getElem c
  obtain ⟨p0, hp0, pp⟩ := hu.get hu0
  rw [List.getElem?_map] at hp0
  cases e : hs[n]? with
  | none => rw [e] at hp0; cases hp0
  | some h => rw [e] at hp0; cases hp0; exact ⟨h, _, hu0, rfl, pp⟩
def nxtB (tg fe : Bool) (st : WS) : Stp → WS
  | .nxt => { st with hs := st.hs ++ [none] }
  | .on x n => if x = "take" then { st with hs := st.hs.set n (some (st.mrk, false)) } else if x = "drop" then { st with hs := st.hs.set n none } else match st.hs[n]? with
    | some (some (k, _)) => if x = "write" then { st with rs := (if tg then st.rs else st.rs ++ [k]), hs := st.hs.set n (some (k, true)) }
      else if fe = true ∧ n + 1 ≠ st.hs.length then { st with hs := st.hs.set n none } else ⟨k + 1, if tg then st.rs ++ [k] else st.rs, st.hs.set n none⟩
    | _ => st
abbrev s_Work_can_do : Stmt := inn 16 8
theorem sc_Work_can_do : FnScope ["self", "step", "held"] ["self", "step"] (defScope s_Work_can_do) := ⟨rfl, rfl, rfl, by decide +kernel, rfl, by decide +kernel, by decide +kernel⟩
def sp_can_do (K : PySem.W.Frag) : Sp := fun vs H Q _ => ∃ (T : List (Addr × Str)) (L : List En) (a p q : Addr) (mn : Int) (tg fe : Bool) (st : WS) (us : List V) (v : V) (s : Stp), vs = [.ref a, v] ∧ Wd T H L ∧ HasW K L a p q mn tg fe st.mrk st.rs us ∧ PdA H us (st.hs.map holdD) ∧ Pd H v (stpD s) ∧ OkS s ∧ Q (.bl (canB mn st s)) H
theorem ok_can_do (C : Cx0 K mg base) : MetE P w K mg base 3 (He.ga K "Work") "can_do" ["self", "step"] (sp_can_do K) := by
  have p_newest := ok_newest (P := P) (w := w) C
  obtain ⟨cl, n1, n2, n3, n4, n5, n6⟩ := wat C
  refine (C.met2 27 49 43 rfl rfl rfl sc_Work_can_do rfl (fun _ _ _ _ _ _ us hl => match us, hl with | [_, _], _ => rfl) (fun _ _ _ _ _ _ _ ws hl => match ws, hl with | [_], _ => rfl) (fun vs H Q E h => ?_) (fun f cdv A outer s H vs Q E hr h => ⟨_, PSs.nox
    (pss_cons (ps_if (pt_cmpR (k_eq (K := K) rfl hr) (pe_ix (k_ixB (K := K) rfl hr) (pv 1) pe_int (fun _ _ => rfl)) pe_str (nomark _)) (pss_one (ps_ret (pe_cmpR (k_lt (K := K) rfl hr) (pe_bi (k_lenB (K := K) rfl) (C.free 31) (by decide +kernel) (pa_cons (k_fld (K := K) rfl (pv 0)) pa_nil)) (pe_gi (C.int 40)) (nomark _)))) pss_nil)
      (pss_cons (ps_if (pt_cmpR (k_gt (K := K) rfl hr) (pe_ix (k_ixB (K := K) rfl hr) (pv 1) pe_int (fun _ _ => rfl)) (pe_pr p_newest hr (by first | decide | omega) passP (pv 0)) (nomark _)) (pss_one (ps_ret pe_bl)) pss_nil)
      (pss_cons (ps_set (i := 2) sc_Work_can_do.nd rfl (Or.inl rfl) (pe_ix (k_ixB (K := K) rfl hr) (k_fld (K := K) rfl (pv 0)) (pe_ix (k_ixB (K := K) rfl hr) (pv 1) pe_int (fun _ _ => rfl)) (fun _ _ => rfl)))
      (pss_cons (ps_if (pt_cmpR (k_eq (K := K) rfl hr) (pe_ix (k_ixB (K := K) rfl hr) (pv 1) pe_int (fun _ _ => rfl)) pe_str (nomark _)) (pss_one (ps_ret (pe_and (pe_cmpR op_isN (pv 2) pe_non (nomark _)) (pe_one (pe_cmpR (k_lt (K := K) rfl hr) (k_fld (K := K) rfl (pv 0)) (k_fld (K := K) rfl (pv 0)) (nomark _)))))) pss_nil)
      (pss_cons (ps_if (pt_cmpR (k_eq (K := K) rfl hr) (pe_ix (k_ixB (K := K) rfl hr) (pv 1) pe_int (fun _ _ => rfl)) pe_str (nomark _)) (pss_one (ps_ret pe_bl)) pss_nil)
      (pss_one (ps_ret (pe_and (pe_cmpR op_notN (pv 2) pe_non (nomark _)) (pe_one (pe_cmpR (k_eq (K := K) rfl hr) (pe_ix (k_ixB (K := K) rfl hr) (pv 2) pe_int (fun _ _ => rfl)) (pe_cmpR (k_eq (K := K) rfl hr) (pe_ix (k_ixB (K := K) rfl hr) (pv 1) pe_int (fun _ _ => rfl)) pe_str (nomark _)) (nomark _))))))))))), ?_⟩)).1
  · obtain ⟨T, L, a, p, q, mn, tg, fe, st, us, v, s, rfl, _⟩ := h
    rfl
  · obtain ⟨T, L, a, p, q, mn, tg, fe, st, us, v, s, rfl, w0, hw, hu, hv, ok, kk⟩ := h
    obtain ⟨⟨R1, s1⟩, ⟨R2, s2⟩, ⟨R3, s3⟩⟩ := id hw
    have el : us.length = st.hs.length := by rw [hu.length, List.length_map]
    match s, hv, ok, kk with
    | .nxt, hv, ok, kk =>
      obtain ⟨b, rfl, tu⟩ := Pd.nx hv
      repeat walk_at "go"
      rw [el, show decide (((st.hs.length : Nat) : Int) < 12) = canB mn st .nxt by unfold canB; rw [Bool.eq_iff_iff, decide_eq_true_iff, decide_eq_true_iff]; omega]
      exact kk
    | .on x n, hv, ok, kk =>
      obtain ⟨b, rfl, tu⟩ := Pd.on hv
      repeat walk_at "go"
      rw [decide_eq_false (words_ne ok.1)]
      repeat walk_at "go"
      refine ⟨T, L, a, p, q, mn, tg, fe, st.mrk, st.rs, us, rfl, w0, hw, ?_⟩
      repeat walk_at "go"
      by_cases c : n < us.length
      · rw [decide_eq_false (show ¬ (us.length : Int) - 1 < (n : Int) by omega)]
        obtain ⟨h, u0, hu0, hh, pp⟩ := holds_at hu c
        rw [canB_on hh] at kk
        unfold canH at kk
        repeat walk_at "go"
        refine b_ixN (by assumption) (by walk_at "sel") hu0 ?_
        repeat walk_at "go"
        refine r_D (fun c1 => ?_) (fun c1 => ?_)
        · rw [if_pos c1] at kk
          repeat walk_at "go"
          match h, pp, kk with
          | none, pp, kk =>
            cases pp
            refine ⟨rfl, _, rfl, r_T (decide_eq_true rfl) ?_⟩
            repeat walk_at "go"
            exact kk
          | some (k, b), pp, kk =>
            obtain ⟨c, ys, rfl, t1, t2⟩ := pp.tupV
            refine ⟨rfl, _, rfl, r_F (decide_eq_false (fun z => nomatch z)) ?_⟩
            exact kk
        · rw [if_neg c1] at kk
          repeat walk_at "go"
          refine r_D (fun c2 => ?_) (fun c2 => ?_)
          · rw [if_pos c2] at kk
            repeat walk_at "go"
            exact kk
          · rw [if_neg c2] at kk
            repeat walk_at "go"
            match h, pp, kk with
            | none, pp, kk =>
              cases pp
              refine ⟨rfl, _, rfl, r_F (by rw [decide_eq_true rfl]; rfl) ?_⟩
              exact kk
            | some (k, b), pp, kk =>
              obtain ⟨c, ys, rfl, t1, t2⟩ := pp.tupV
              match ys, t2 with
              | [_, _], .cons g1 (.cons g2 .nil) =>
              obtain rfl := g1.intV
              obtain rfl := g2.blV
              refine ⟨rfl, _, rfl, r_T (by rw [decide_eq_false (fun z => nomatch z)]; rfl) ?_⟩
              repeat walk_at "go"
              exact kk
      · rw [decide_eq_true (show (us.length : Int) - 1 < (n : Int) by omega)]
        have cb : canB mn st (.on x n) = false := by
          exact canB_off (by omega)
        rw [cb] at kk
        repeat walk_at "go"
        exact kk
/-- what a step does, in the row -/
def DoK (K : PySem.W.Frag) (T : List (Addr × Str)) (F : List En) (a p q : Addr) (mn : Int) (tg fe : Bool) (st : WS) (us : List V) (d : PyData) (H : Hp) (Q : VK) (E : XK) : Prop :=
  (stepB d = false → Refuse T (fW K a p q mn tg fe st.mrk st.rs us F) (cBad0 K) "name" "step" H E) ∧
  ∀ s, OkS s → d = stpD s → (canB mn st s = false → Refuse T (fW K a p q mn tg fe st.mrk st.rs us F) (cNot0 K) "word" (wordOf s) H E) ∧
    (canB mn st s = true → ∀ us' H', Le H H' → Wd T H' (fW K a p q mn tg fe (nxtB tg fe st s).mrk (nxtB tg fe st s).rs us' F) → PdA H' us' ((nxtB tg fe st s).hs.map holdD) → Q .non H')
abbrev s_Work_do : Stmt := inn 16 9
theorem sc_Work_do : FnScope ["self", "step"] ["self", "step"] (defScope s_Work_do) := ⟨rfl, rfl, rfl, by decide +kernel, rfl, by decide +kernel, by decide +kernel⟩
def sp_do (K : PySem.W.Frag) : Sp := fun vs H Q E => ∃ (T : List (Addr × Str)) (F : List En) (a p q : Addr) (mn : Int) (tg fe : Bool) (st : WS) (us : List V) (v : V) (d : PyData), vs = [.ref a, v] ∧ Wd T H (fW K a p q mn tg fe st.mrk st.rs us F) ∧ PdA H us (st.hs.map holdD) ∧ st.rs.length < 1000000 ∧ Dp K H v d ∧ SeqAt.shaped d = true ∧ (stepB d = true → Pd H v d) ∧ DoK K T F a p q mn tg fe st us d H Q E
theorem ok_do (C : Cx0 K mg base) (wd : He.tupB K "WORDS" [.str "take", .str "write", .str "mark", .str "drop"] = true) (o_BadArgument : OBad P w K mg base) (o_NotPossible : ONot P w K mg base) : MetE P w K mg base 5 (He.ga K "Work") "do" ["self", "step"] (sp_do K) ∧ MetK P w K mg base 5 (He.ga K "Work") "do" ["step"] (sp_do K) (fun xs zs => xs ++ zs) := by
  have m_is_step := ok_is_step (P := P) (w := w) C wd
  have m_can_do := ok_can_do (P := P) (w := w) C
  have m_write := ok_write (P := P) (w := w) C
  have m_end := ok_end (P := P) (w := w) C
  obtain ⟨cl, n1, n2, n3, n4, n5, n6⟩ := wat C
  refine C.met2 28 50 43 rfl rfl rfl sc_Work_do rfl (fun _ _ _ _ _ _ us hl => match us, hl with | [_, _], _ => rfl) (fun _ _ _ _ _ _ _ ws hl => match ws, hl with | [_], _ => rfl) (fun vs H Q E h => ?_) (fun f cdv A outer s H vs Q E hr h => ⟨_,
    (pss_cons (ps_if (pt_not (k_truth (K := K) rfl (pe_me m_is_step hr (by first | decide | omega) (passes_call (takes_of rfl rfl rfl rfl) fun _ _ _ _ h => h) (pv 0) (pa_cons (pv 1) pa_nil)) (by intro _; rfl))) (pss_one (ps_own (K := K) rfl o_BadArgument rfl (takes_of rfl rfl rfl rfl) hr (by decide) passL pe_str)) pss_nil)
      (pss_cons (ps_if (pt_not (k_truth (K := K) rfl (pe_me m_can_do hr (by first | decide | omega) (passes_call (takes_of rfl rfl rfl rfl) fun _ _ _ _ h => h) (pv 0) (pa_cons (pv 1) pa_nil)) (by intro _; rfl))) (pss_one (ps_own (K := K) rfl o_NotPossible rfl (takes_of rfl rfl rfl rfl) hr (by decide) passL (pe_ix (k_ixB (K := K) rfl hr) (pv 1) pe_int (fun _ _ => rfl)))) pss_nil)
      (pss_one (ps_if (pt_cmpR (k_eq (K := K) rfl hr) (pe_ix (k_ixB (K := K) rfl hr) (pv 1) pe_int (fun _ _ => rfl)) pe_str (nomark _)) (pss_one (ps_expr (k_append (K := K) rfl (k_fld (K := K) rfl (pv 0)) pe_non))) (pss_one (ps_if (pt_cmpR (k_eq (K := K) rfl hr) (pe_ix (k_ixB (K := K) rfl hr) (pv 1) pe_int (fun _ _ => rfl)) pe_str (nomark _)) (pss_one (ps_asg (pe_tup (pa_cons (k_fld (K := K) rfl (pv 0)) (pa_cons pe_bl pa_nil))) (pg_sub (k_fld (K := K) rfl (pv 0)) (pe_ix (k_ixB (K := K) rfl hr) (pv 1) pe_int (fun _ _ => rfl)) (k_setB hr)))) (pss_one (ps_if (pt_cmpR (k_eq (K := K) rfl hr) (pe_ix (k_ixB (K := K) rfl hr) (pv 1) pe_int (fun _ _ => rfl)) pe_str (nomark _)) (pss_one (ps_asg pe_non (pg_sub (k_fld (K := K) rfl (pv 0)) (pe_ix (k_ixB (K := K) rfl hr) (pv 1) pe_int (fun _ _ => rfl)) (k_setB hr)))) (pss_one (ps_if (pt_cmpR (k_eq (K := K) rfl hr) (pe_ix (k_ixB (K := K) rfl hr) (pv 1) pe_int (fun _ _ => rfl)) pe_str (nomark _)) (pss_one (ps_expr (pe_me m_write hr (by first | decide | omega) (passes_call (takes_of rfl rfl rfl rfl) fun _ _ _ _ h => h) (pv 0) (pa_cons (pe_ix (k_ixB (K := K) rfl hr) (pv 1) pe_int (fun _ _ => rfl)) pa_nil)))) (pss_one (ps_expr (pe_me m_end hr (by first | decide | omega) (passes_call (takes_of rfl rfl rfl rfl) fun _ _ _ _ h => h) (pv 0) (pa_cons (pe_ix (k_ixB (K := K) rfl hr) (pv 1) pe_int (fun _ _ => rfl)) pa_nil)))))))))))))), ?_⟩)
  · obtain ⟨T, F, a, p, q, mn, tg, fe, st, us, v, d, rfl, _⟩ := h
    rfl
  · obtain ⟨T, F, a, p, q, mn, tg, fe, st, us, v, d, rfl, w0, hu, hl, dp, sh, hp, k1, k2⟩ := h
    repeat walk_at "go"
    refine ⟨a, v, d, rfl, dp, sh, fun H1 e1 => ?_⟩
    have l1 := Le.ex e1
    have w1 := w0.ex e1
    cases es : stepB d with
    | false =>
      repeat walk_at "go"
      exact n_mkQ w1 fun d H2 l2 w2 e2 => (k1 es).le l1 d H2 l2 w2 e2
    | true =>
      have hp := hp es
      obtain ⟨s, ok, rfl⟩ := stepB_cases es
      obtain ⟨k2, k3⟩ := k2 s ok rfl
      repeat walk_at "go"
      refine ⟨T, _, a, p, q, mn, tg, fe, st, us, v, s, rfl, w1, ⟨⟨_, by walk_at "sel"⟩, ⟨_, by walk_at "sel"⟩, ⟨_, by walk_at "sel"⟩⟩, hu.le l1, hp.le l1, ok, ?_⟩
      have hu1 := hu.le l1
      have hp1 := hp.le l1
      have el : us.length = st.hs.length := by rw [hu.length, List.length_map]
      match s, ok, hp1, k2, k3 with
      | .nxt, ok, hp1, k2, k3 =>
        obtain ⟨b, rfl, tu⟩ := Pd.nx hp1
        cases cb : canB mn st .nxt with
        | false =>
          repeat walk_at "go"
          exact n_mkQ w1 fun d H2 l2 w2 e2 => (k2 cb).le l1 d H2 l2 w2 e2
        | true =>
          have cb' : st.hs.length < 12 := of_decide_eq_true cb
          repeat walk_at "go"
          refine n_app (by assumption) (by walk_at "sel") (Nat.lt_of_lt_of_le (by omega : us.length < 12) (by decide)) fun H2 l2 w2 => ?_
          repeat walk_at "go"
          refine k3 cb (us ++ [.non]) H2 (by walk_at "le") (by walk_at "wdD") ?_
          show PdA _ _ ((st.hs ++ [none]).map holdD)
          rw [List.map_append]
          exact (hu1.le l2).append (.cons .non .nil)
      | .on x n, ok, hp1, k2, k3 =>
        obtain ⟨b, rfl, tu⟩ := Pd.on hp1
        cases cb : canB mn st (.on x n) with
        | false =>
          repeat walk_at "go"
          exact n_mkQ w1 fun d H2 l2 w2 e2 => (k2 cb).le l1 d H2 l2 w2 e2
        | true =>
          have k3 := k3 cb
          have c : n < us.length := by
            apply Classical.byContradiction
            intro z
            rw [canB_off (by omega)] at cb
            cases cb
          obtain ⟨h, u0, hu0, hh, pp⟩ := holds_at hu1 c
          rw [canB_on hh] at cb
          repeat walk_at "go"
          rw [decide_eq_false (words_ne ok.1)]
          repeat walk_at "go"
          refine r_D (fun c1 => ?_) (fun c1 => ?_)
          · repeat walk_at "go"
            refine b_setL (by assumption) (by walk_at "sel") c fun H2 l2 w2 => ?_
            have e : nxtB tg fe st (.on x n) = { st with hs := st.hs.set n (some (st.mrk, false)) } := if_pos c1
            rw [e] at k3
            refine k3 _ _ (by walk_at "le") (by walk_at "wdD") ?_
            show PdA _ _ ((st.hs.set n (some (st.mrk, false))).map holdD)
            rw [List.map_set]
            exact PdA.set n (hu.le (by walk_at "le")) (.tup (by walk_at "tu") (.cons (.int _) (.cons (.bl _) .nil)))
          · repeat walk_at "go"
            refine r_D (fun c2 => ?_) (fun c2 => ?_)
            · repeat walk_at "go"
              refine b_setL (by assumption) (by walk_at "sel") c fun H2 l2 w2 => ?_
              have e : nxtB tg fe st (.on x n) = { st with hs := st.hs.set n none } := (if_neg c1).trans (if_pos c2)
              rw [e] at k3
              refine k3 _ _ (by walk_at "le") (by walk_at "wdD") ?_
              show PdA _ _ ((st.hs.set n none).map holdD)
              rw [List.map_set]
              exact PdA.set n (hu.le (by walk_at "le")) .non
            · have cb : holdB x h = true := by
                unfold canH at cb
                rwa [if_neg c1, if_neg c2] at cb
              match h, cb, hh, pp with
              | some (k, bb), cb, hh, pp =>
              have e : nxtB tg fe st (.on x n) = (if x = "write" then { st with rs := (if tg then st.rs else st.rs ++ [k]), hs := st.hs.set n (some (k, true)) }
      else if fe = true ∧ n + 1 ≠ st.hs.length then { st with hs := st.hs.set n none } else ⟨k + 1, if tg then st.rs ++ [k] else st.rs, st.hs.set n none⟩) := by
                refine ((if_neg c1).trans (if_neg c2)).trans ?_
                show (match st.hs[n]? with | some (some (k, _)) => _ | _ => _) = _
                rw [hh]
              rw [e] at k3
              repeat walk_at "go"
              refine r_D (fun c3 => ?_) (fun c3 => ?_)
              · rw [if_pos c3] at k3
                repeat walk_at "go"
                refine ⟨T, F, a, p, q, mn, tg, fe, st.mrk, st.rs, us, u0, n, k, bb, rfl, by assumption, hu0, pp, hl, fun u H2 l2 w2 hu2 => ?_⟩
                repeat walk_at "go"
                refine k3 _ _ (by walk_at "le") (by walk_at "wdD") ?_
                show PdA _ _ ((st.hs.set n (some (k, true))).map holdD)
                rw [List.map_set]
                exact PdA.set n (hu.le (by walk_at "le")) hu2
              · rw [if_neg c3] at k3
                repeat walk_at "go"
                refine ⟨T, F, a, p, q, mn, tg, fe, st.mrk, st.rs, us, u0, n, k, bb, rfl, by assumption, hu0, pp, hl, fun H2 l2 w2 => ?_⟩
                repeat walk_at "go"
                rw [el] at w2
                by_cases c4 : fe = true ∧ n + 1 ≠ st.hs.length
                · rw [if_pos c4] at k3 w2
                  refine k3 _ _ (by walk_at "le") (by walk_at "wdD") ?_
                  show PdA _ _ ((st.hs.set n none).map holdD)
                  rw [List.map_set]
                  exact PdA.set n (hu.le (by walk_at "le")) .non
                · rw [if_neg c4] at k3 w2
                  refine k3 _ _ (by walk_at "le") (by walk_at "wdD") ?_
                  show PdA _ _ ((st.hs.set n none).map holdD)
                  rw [List.map_set]
                  exact PdA.set n (hu.le (by walk_at "le")) .non
end
end K82

local macro_rules | `(tactic| walk_at "wdD") => `(tactic| ((with_reducible apply Wd.pk); (with_reducible assumption); walk_at "pkD"))
local macro_rules | `(tactic| walk_at "ws") => `(tactic| (with_reducible assumption; walk_at "sel"))
local macro_rules | `(tactic| walk_at "lk") => `(tactic| with_unfolding_all rfl)

namespace K82
section
variable {P : Program} {w : World} {K : PySem.W.Frag} {mg : Str → Option Value} {base : Heap}
/-! ### a course -/
theorem stpD_inj : ∀ {s t : Stp}, stpD s = stpD t → s = t
  | .nxt, .nxt, _ => rfl
  | .nxt, .on _ _, h => by cases h
  | .on _ _, .nxt, h => by cases h
  | .on x n, .on y m, h => by
    injection h with h
    injection h with h1 h2
    injection h1 with h1
    injection h2 with h2 _
    injection h2 with h2
    rw [h1, Int.ofNat.inj h2]
open Classical in
noncomputable def stpOf (d : PyData) : Option Stp := if h : ∃ s, OkS s ∧ d = stpD s then some h.choose else none
theorem stpOf_ok {s : Stp} (h : OkS s) : stpOf (stpD s) = some s := by
  have e : ∃ t, OkS t ∧ stpD s = stpD t := ⟨s, h, rfl⟩
  unfold stpOf
  rw [dif_pos e, stpD_inj e.choose_spec.2.symm]
theorem stpOf_no {d : PyData} (h : stepB d = false) : stpOf d = none := by
  unfold stpOf
  rw [dif_neg]
  rintro ⟨s, ok, rfl⟩
  rw [stepB_ok ok] at h
  cases h
noncomputable def runD (mn : Int) (tg fe : Bool) : WS → List PyData → Option WS
  | st, [] => some st
  | st, d :: ds => match stpOf d with
    | none => none
    | some s => if canB mn st s = true then runD mn tg fe (nxtB tg fe st s) ds else none
theorem nxtB_len {tg fe : Bool} {st : WS} {s : Stp} : (nxtB tg fe st s).rs.length ≤ st.rs.length + 1 := by
  cases s with
  | nxt => exact Nat.le_succ _
  | on x n =>
    show (if x = "take" then ({ st with hs := st.hs.set n (some (st.mrk, false)) } : WS) else if x = "drop" then { st with hs := st.hs.set n none } else match st.hs[n]? with
    | some (some (k, _)) => if x = "write" then { st with rs := (if tg then st.rs else st.rs ++ [k]), hs := st.hs.set n (some (k, true)) }
      else if fe = true ∧ n + 1 ≠ st.hs.length then { st with hs := st.hs.set n none } else ⟨k + 1, if tg then st.rs ++ [k] else st.rs, st.hs.set n none⟩
    | _ => st).rs.length ≤ _
    split
    · exact Nat.le_succ _
    split
    · exact Nat.le_succ _
    split
    · split
      · cases tg
        · simp
        · simp
      split
      · exact Nat.le_succ _
      · cases tg
        · simp
        · simp
    · exact Nat.le_succ _
theorem runD_no {mn : Int} {tg fe : Bool} {st : WS} {d : PyData} {ds : List PyData} (h : stepB d = false) : runD mn tg fe st (d :: ds) = none := by
  unfold runD
  rw [stpOf_no h]
theorem runD_cons {mn : Int} {tg fe : Bool} {st : WS} {s : Stp} {ds : List PyData} (ok : OkS s) : runD mn tg fe st (stpD s :: ds) = if canB mn st s = true then runD mn tg fe (nxtB tg fe st s) ds else none := by
  show (match stpOf (stpD s) with | none => none | some s => if canB mn st s = true then runD mn tg fe (nxtB tg fe st s) ds else none) = _
  rw [stpOf_ok ok]
theorem runD_len {mn : Int} {tg fe : Bool} : ∀ {ds : List PyData} {st st' : WS}, runD mn tg fe st ds = some st' → st'.rs.length ≤ st.rs.length + ds.length
  | [], st, st', h => by
    cases h
    exact Nat.le_refl _
  | d :: ds, st, st', h => by
    unfold runD at h
    cases e : stpOf d with
    | none => rw [e] at h; cases h
    | some s =>
      rw [e] at h
      by_cases c : canB mn st s = true
      · have h2 : runD mn tg fe (nxtB tg fe st s) ds = some st' := (if_pos c).symm.trans h
        have := runD_len h2
        have := nxtB_len (tg := tg) (fe := fe) (st := st) (s := s)
        rw [List.length_cons]
        omega
      · have : (none : Option WS) = some st' := (if_neg c).symm.trans h
        cases this
theorem r_lenSet {K : PySem.W.Frag} {ta : TE} {σ : St} {H : Hp} {Q : VK} (h : ta σ H fun x H1 => ∃ (l : Addr) (ns : List Int), x = V.ref l ∧ (SqL K H1 l (ns.map V.int) ∨ SqT K H1 l (ns.map V.int)) ∧ ns.length ≤ 1000 ∧ ∀ n, Dst ns n → Q (.int n) H1) : tLenSetB K ta σ H Q := h
theorem r_star {K : PySem.W.Frag} {te : TE} {t : TA} {σ : St} {H : Hp} {Q : List V → Hp → Prop} (h : te σ H fun x H1 => ∃ p xs, x = V.ref p ∧ (SqT K H1 p xs ∨ SqL K H1 p xs) ∧ t σ H1 fun ys H2 => Q (xs ++ ys) H2) : StX.tStar K te t σ H Q := h
theorem r_methS {C : Addr} {m : Str} {sp : Sp} {E : St → XK} {ta : TE} {t : TA} {σ : St} {H : Hp} {Q : VK} (h : ta σ H fun x H1 => ∃ a dx fs, x = .ref a ∧ H1 a = some (.ins C dx fs) ∧ fs.lookup m = none ∧ t σ H1 fun vs H2 => sp (x :: vs) H2 Q (E σ)) : tMethS C m sp E ta t σ H Q := h
theorem k_init {T : List (Addr × Str)} {H : Hp} {L : List En} {Q : VK} {E : XK} {x : Addr} {mn : Int} {tg fe : Bool} (w : Wd T H ((x, isI (CW K) []) :: L)) (m0 : 0 ≤ mn) (m1 : mn ≤ 100) (q : ∀ p q H', Le H H' → Wd T H' (fW K x p q mn tg fe 0 [] [.non] L) → Q .non H') : sp_init K [.ref x, .int mn, .bl tg, .bl fe] H Q E := by
  refine ⟨T, L, x, .int mn, .bl tg, .bl fe, "int", "bool", "bool", rfl, w, .int _, .bl _, .bl _, (fun e => ?_), (fun _ e => nomatch e), (fun _ _ e => nomatch e), fun mn' tg' fe' e1 _ _ e2 e3 p' q' H1 l1 w1 => ?_⟩
  · rw [inB_yes m0 m1] at e
    cases e
  cases e1
  cases e2
  cases e3
  exact q p' q' H1 l1 w1
abbrev s_led : Stmt := top 11
theorem sc_led : FnScope ["thing", "steps", "found", "step"] ["thing", "steps"] (defScope s_led) := ⟨rfl, rfl, rfl, by decide +kernel, rfl, by decide +kernel, by decide +kernel⟩
def sp_led (K : PySem.W.Frag) : Sp := fun vs H Q _ => ∃ (T : List (Addr × Str)) (L : List En) (a p q : Addr) (mn : Int) (tg fe : Bool) (st : WS) (us : List V) (v : V) (Ty : String), vs = [.ref a, v] ∧ Wd T H L ∧ HasW K L a p q mn tg fe st.mrk st.rs us ∧ PdA H us (st.hs.map holdD) ∧ 0 ≤ mn ∧ mn ≤ 100 ∧ IsTy K H v Ty ∧
  (isT Ty "tuple" = false → Q .non H) ∧ (isT Ty "tuple" = true → ∃ b xs ds, v = .ref b ∧ Tu H b xs ∧ PdA H xs ds ∧ (∀ d ∈ ds, SeqAt.shaped d = true) ∧ ds.length ≤ 20000 ∧ st.rs.length ≤ 1000 ∧
    match runD mn tg fe st ds with
    | none => ∀ H', Le H H' → Wd T H' L → Q .non H'
    | some st' => ∀ b p' q' us' H', Le H H' → Wd T H' (fW K b p' q' mn tg fe st'.mrk st'.rs us' L) → PdA H' us' (st'.hs.map holdD) → Q (.ref b) H')
theorem ok_led (C : Cx0 K mg base) (wd : He.tupB K "WORDS" [.str "take", .str "write", .str "mark", .str "drop"] = true) (o_BadArgument : OBad P w K mg base) (o_NotPossible : ONot P w K mg base) (xN : PySem.W.exmOne K (.ref (cNot0 K)) (.ref (cBad0 K)) = some false) : Cal P w K mg base 7 "led" ["thing", "steps"] (sp_led K) := by
  have m_twin := ok_twin (P := P) (w := w) C o_BadArgument
  have m_do := (ok_do (P := P) (w := w) C wd o_BadArgument o_NotPossible).1
  refine C.cal 4 4 rfl rfl sc_led (fun _ _ _ _ _ _ us hl => match us, hl with | [_, _], _ => rfl) (fun vs H Q E h => ?_) (fun f cdv A outer s H vs Q E hr h => ⟨_, PSs.nox
    (pss_cons (ps_if (PW.pt (pw_or (pt_not (k_truth (K := K) rfl (pe_bi (k_isi (K := K) rfl) (C.free 26) (by decide +kernel) (pa_cons (pv 1) (pa_cons (pe_ty "tuple" (C.free 28)) pa_nil))) (by intro _; rfl))) (pw_or1 (pt_cmpR (k_gt (K := K) rfl hr) (pe_bi (k_lenB (K := K) rfl) (C.free 31) (by decide +kernel) (pa_cons (pv 1) pa_nil)) (pe_gi (C.int 38)) (nomark _))))) (pss_one (ps_ret pe_non)) pss_nil)
      (pss_cons (ps_set (i := 2) sc_led.nd rfl (Or.inl rfl) (pe_me0 m_twin hr (by first | decide | omega) passL (pv 0)))
      (pss_cons (ps_for PassesOwn.never rfl (k_seq (K := K) rfl (pv 1)) (pg_name (i := 3) sc_led.nd rfl (Or.inl rfl))
      (pss_one (ps_try_many rfl rfl LamX.takes0 (fun W pn xe tk _ => (pss_one (ps_expr (pe_meS m_do hr (by first | decide | omega) tk (pv 2) (pa_cons (pv 3) pa_nil))))) (.cons ⟨rfl, by decide, .inl o_BadArgument.1⟩ (fun a oe cls d pn hz hf => (pss_one (ps_ret pe_non))) (.cons ⟨rfl, by decide, .inl o_NotPossible.1⟩ (fun a oe cls d pn hz hf => (pss_one (ps_ret pe_non))) .nil)))))
      (pss_one (ps_ret (pv 2)))))), ?_⟩)
  · obtain ⟨T, L, a, p, q, mn, tg, fe, st, us, v, Ty, rfl, _⟩ := h
    rfl
  · obtain ⟨T, L, a, p, q, mn, tg, fe, st, us, v, Ty, rfl, w0, hw, hu, m0, m1, ty, k1, k2⟩ := h
    obtain ⟨⟨R1, s1⟩, ⟨R2, s2⟩, ⟨R3, s3⟩⟩ := id hw
    repeat walk_at "go"
    refine r_isiK ty (by decide) ?_
    cases et : isT Ty "tuple" with
    | false =>
      repeat walk_at "go"
      exact k1 et
    | true =>
      obtain ⟨b, xs, ds, rfl, tu, hd, sh, l1, l2, kk⟩ := k2 et
      have el : xs.length = ds.length := hd.length
      repeat walk_at "go"
      rw [decide_eq_false (show ¬ (20000 : Int) < (xs.length : Nat) by omega)]
      repeat walk_at "go"
      refine ⟨T, L, a, p, q, mn, tg, fe, st.mrk, st.rs, us, rfl, w0, hw, m0, m1, fun b' p' q' H1 e1 w1 => ?_⟩
      repeat walk_at "go"
      refine f_seq (k := .t) (tu.le e1).sq (fun i σ H2 => ∃ us2 st2 x4, σ = [some (.ref a), some (.ref b), some (.ref b'), x4] ∧ Le H H2 ∧ Wd T H2 (fW K b' p' q' mn tg fe st2.mrk st2.rs us2 L) ∧ PdA H2 us2 (st2.hs.map holdD) ∧ runD mn tg fe st2 (ds.drop i) = runD mn tg fe st ds ∧ st2.rs.length ≤ 1000 + i)
        ⟨us, st, _, rfl, e1, w1, hu.le e1, by rw [List.drop_zero], by omega⟩ (fun i σ H2 _ ⟨_, _, _, _, l, _⟩ => (tu.le l).sq) ?_ ?_
      · rintro i x σ H2 hx ⟨us2, st2, x4, rfl, l2, w2, hu2, er, ln⟩
        obtain ⟨d, hdi, hp⟩ := hd.get hx
        have hp2 := hp.le l2
        have shd := sh d (List.mem_of_getElem? hdi)
        have hi : i < ds.length := (List.getElem?_eq_some_iff.mp hdi).choose
        rw [List.drop_eq_getElem_cons hi, (List.getElem?_eq_some_iff.mp hdi).choose_spec] at er
        repeat walk_at "go"
        refine r_methS ?_
        repeat walk_at "go"
        refine ⟨T, L, b', p', q', mn, tg, fe, st2, us2, x, d, rfl, w2, hu2, by omega, hp2.dp, shd, fun _ => hp2, fun e => ?_, fun s ok es => ⟨fun cb => ?_, fun cb us3 H3 l3 w3 hu3 => ?_⟩⟩
        · intro d' H3 l3 w3 e3
          rw [runD_no e] at er
          rw [← er] at kk
          refine ⟨true, o_BadArgument.2.2.2.2.2.1, fun _ _ _ => ?_, fun z => nomatch z⟩
          repeat walk_at "go"
          exact kk _ (by walk_at "le") (by walk_at "wd")
        · subst es
          intro d' H3 l3 w3 e3
          rw [runD_cons ok, if_neg (by rw [cb]; decide)] at er
          rw [← er] at kk
          refine ⟨false, xN, (fun z => nomatch z), fun _ => ⟨true, o_NotPossible.2.2.2.2.2.1, fun _ _ _ => ?_, fun z => nomatch z⟩⟩
          repeat walk_at "go"
          exact kk _ (by walk_at "le") (by walk_at "wd")
        · subst es
          rw [runD_cons ok, if_pos cb] at er
          exact ⟨us3, _, _, rfl, by walk_at "le", w3, hu3, er, by have := nxtB_len (tg := tg) (fe := fe) (st := st2) (s := s); omega⟩
      · rintro σ H2 ⟨us2, st2, x4, rfl, l2, w2, hu2, er, ln⟩
        rw [el, List.drop_length] at er
        rw [← er] at kk
        repeat walk_at "go"
        exact kk _ _ _ _ _ (by walk_at "le") (by walk_at "wd") hu2
abbrev s_is_just_once : Stmt := top 17
theorem sc_is_just_once : FnScope ["together", "fenced"] ["together", "fenced"] (defScope s_is_just_once) := ⟨rfl, rfl, rfl, by decide +kernel, rfl, by decide +kernel, by decide +kernel⟩
def sp_once (K : PySem.W.Frag) : Sp := fun vs H Q E => ∃ (T : List (Addr × Str)) (L : List En) (v2 v3 : V) (T2 T3 : String), vs = [v2, v3] ∧ Wd T H L ∧ IsTy K H v2 T2 ∧ IsTy K H v3 T3 ∧
  (isBlV v2 = false → Refuse T L (cBad0 K) "name" "together" H E) ∧ (isBlV v2 = true → isBlV v3 = false → Refuse T L (cBad0 K) "name" "fenced" H E) ∧
  ∀ tg fe, v2 = .bl tg → v3 = .bl fe → Q (.bl (tg && fe)) H
theorem ok_once (C : Cx0 K mg base) (o_BadArgument : OBad P w K mg base) : Cal P w K mg base 4 "is_just_once" ["together", "fenced"] (sp_once K) := by
  have c_demand := ok_demand (P := P) (w := w) C o_BadArgument
  refine C.cal 5 5 rfl rfl sc_is_just_once (fun _ _ _ _ _ _ us hl => match us, hl with | [_, _], _ => rfl) (fun vs H Q E h => ?_) (fun f cdv A outer s H vs Q E hr h => ⟨_,
    (pss_cons (ps_expr (pe_f c_demand hr (by first | decide | omega) (passes_call (takes_of rfl rfl rfl rfl) fun _ _ _ _ h => h) (pa_cons (pe_bi (k_isi (K := K) rfl) (C.free 26) (by decide +kernel) (pa_cons (pv 0) (pa_cons (pe_ty "bool" (C.free 30)) pa_nil))) (pa_cons pe_str pa_nil))))
      (pss_cons (ps_expr (pe_f c_demand hr (by first | decide | omega) (passes_call (takes_of rfl rfl rfl rfl) fun _ _ _ _ h => h) (pa_cons (pe_bi (k_isi (K := K) rfl) (C.free 26) (by decide +kernel) (pa_cons (pv 1) (pa_cons (pe_ty "bool" (C.free 30)) pa_nil))) (pa_cons pe_str pa_nil))))
      (pss_one (ps_ret (pe_and (pv 0) (pe_one (pv 1))))))), ?_⟩)
  · obtain ⟨T, L, v2, v3, T2, T3, rfl, _⟩ := h
    rfl
  · obtain ⟨T, L, v2, v3, T2, T3, rfl, w0, t2, t3, k2, k3, k⟩ := h
    repeat walk_at "go"
    refine r_isiK t2 (by decide) ?_
    rw [isBl_ty t2]
    repeat walk_at "go"
    refine k_demand w0 (fun e2 => ?_) k2
    repeat walk_at "go"
    refine r_isiK t3 (by decide) ?_
    rw [isBl_ty t3]
    repeat walk_at "go"
    refine k_demand w0 (fun e3 => ?_) (k3 e2)
    obtain ⟨tg, rfl⟩ : ∃ tg, v2 = .bl tg := by cases v2 <;> first | exact ⟨_, rfl⟩ | cases e2
    obtain ⟨fe, rfl⟩ : ∃ fe, v3 = .bl fe := by cases v3 <;> first | exact ⟨_, rfl⟩ | cases e3
    have := k tg fe rfl rfl
    cases tg
    · repeat walk_at "go"
      exact this
    · repeat walk_at "go"
      exact this
def rev3 {α : Type} : List α → List α
  | [a, b, c] => [c, b, a]
  | l => l
/-- the course that doubles -/
def dbl (tg : Bool) : List Stp := if tg then [.on "take" 0, .on "write" 0, .nxt, .on "take" 1, .on "write" 1, .on "mark" 1, .on "mark" 0] else [.on "take" 0, .on "write" 0, .on "drop" 0, .on "take" 0, .on "write" 0]
abbrev s_doubled_work : Stmt := top 18
theorem sc_doubled_work : FnScope ["many", "together", "fenced", "first"] ["many", "together", "fenced"] (defScope s_doubled_work) := ⟨rfl, rfl, rfl, by decide +kernel, rfl, by decide +kernel, by decide +kernel⟩
def sp_dbl (K : PySem.W.Frag) : Sp := fun vs H Q E => ∃ (T : List (Addr × Str)) (L : List En) (v1 v2 v3 : V) (T1 T2 T3 : String), vs = [v1, v2, v3] ∧ Wd T H L ∧ IsTy K H v1 T1 ∧ IsTy K H v2 T2 ∧ IsTy K H v3 T3 ∧
  (inB 0 100 v1 = false → Refuse T L (cBad0 K) "name" "many" H E) ∧ (inB 0 100 v1 = true → isBlV v2 = false → Refuse T L (cBad0 K) "name" "together" H E) ∧ (inB 0 100 v1 = true → isBlV v2 = true → isBlV v3 = false → Refuse T L (cBad0 K) "name" "fenced" H E) ∧
  ∀ (mn : Int) (tg fe : Bool), v1 = .int mn → 0 ≤ mn → mn ≤ 100 → v2 = .bl tg → v3 = .bl fe → ((tg && fe) = true ∨ mn = 0 → ∀ H', Le H H' → Wd T H' L → Q .non H') ∧ ((tg && fe) = false → mn ≠ 0 → ∀ b xs H', Le H H' → Wd T H' L → Tu H' b xs → PdA H' xs ((dbl tg).map stpD) → Q (.ref b) H')
theorem ok_dbl (C : Cx0 K mg base) (o_BadArgument : OBad P w K mg base) : Cal P w K mg base 6 "doubled_work" ["many", "together", "fenced"] (sp_dbl K) ∧ CalK P w K mg base 6 "doubled_work" ["fenced", "together", "many"] (sp_dbl K) rev3 := by
  have c_demand := ok_demand (P := P) (w := w) C o_BadArgument
  have c_is_in := ok_is_in (P := P) (w := w) C
  have c_is_just_once := ok_once (P := P) (w := w) C o_BadArgument
  have len : ∀ vs H Q E, sp_dbl K vs H Q E → vs.length = 3 := fun vs H Q E h => by
    obtain ⟨T, L, v1, v2, v3, T1, T2, T3, rfl, _⟩ := h
    rfl
  refine (fun body => ⟨C.cal 6 6 rfl rfl sc_doubled_work (fun _ _ _ _ _ _ us hl => match us, hl with | [_, _, _], _ => rfl) len body, C.calK 6 6 (ps := ["many", "together", "fenced"]) (ks := ["fenced", "together", "many"]) (g := rev3) (gV := rev3) rfl rfl sc_doubled_work (fun zs ws h => by
    match zs, ws, h with
    | [], _, .nil => exact .nil
    | [_], _, .cons a .nil => exact .cons a .nil
    | [_, _], _, .cons a (.cons b .nil) => exact .cons a (.cons b .nil)
    | [_, _, _], _, .cons a (.cons b (.cons c .nil)) => exact .cons c (.cons b (.cons a .nil))
    | _ :: _ :: _ :: _ :: _, _, .cons a (.cons b (.cons c (.cons d e))) => exact .cons a (.cons b (.cons c (.cons d e)))) (fun _ _ _ _ _ _ ws hl => match ws, hl with | [_, _, _], _ => rfl) len body⟩) (fun f cdv A outer s H vs Q E hr h => ⟨_,
    (pss_cons (ps_expr (pe_f c_demand hr (by first | decide | omega) (passes_call (takes_of rfl rfl rfl rfl) fun _ _ _ _ h => h) (pa_cons (pe_f c_is_in hr (by first | decide | omega) (passes_call (takes_of rfl rfl rfl rfl) fun _ _ _ _ h => h) (pa_cons (pv 0) (pa_cons pe_int (pa_cons (pe_gi (C.int 39)) pa_nil)))) (pa_cons pe_str pa_nil))))
      (pss_cons (ps_if (PW.pt (pw_or (k_truth (K := K) rfl (pe_f c_is_just_once hr (by first | decide | omega) (passes_call (takes_of rfl rfl rfl rfl) fun _ _ _ _ h => h) (pa_cons (pv 1) (pa_cons (pv 2) pa_nil))) (by intro _; rfl)) (pw_or1 (pt_cmpR (k_eq (K := K) rfl hr) (pv 0) pe_int (nomark _))))) (pss_one (ps_ret pe_non)) pss_nil)
      (pss_cons (ps_if (pt_not (k_truth (K := K) rfl (pv 1) (by intro _; rfl))) (pss_one (ps_ret (pe_tup (pa_cons (pe_tup (pa_cons pe_str (pa_cons pe_int pa_nil))) (pa_cons (pe_tup (pa_cons pe_str (pa_cons pe_int pa_nil))) (pa_cons (pe_tup (pa_cons pe_str (pa_cons pe_int pa_nil))) (pa_cons (pe_tup (pa_cons pe_str (pa_cons pe_int pa_nil))) (pa_cons (pe_tup (pa_cons pe_str (pa_cons pe_int pa_nil))) pa_nil)))))))) pss_nil)
      (pss_cons (ps_set (i := 3) sc_doubled_work.nd rfl (Or.inl rfl) (pe_tup (pa_cons (pe_tup (pa_cons pe_str (pa_cons pe_int pa_nil))) (pa_cons (pe_tup (pa_cons pe_str (pa_cons pe_int pa_nil))) (pa_cons (pe_tup (pa_cons pe_str pa_nil)) (pa_cons (pe_tup (pa_cons pe_str (pa_cons pe_int pa_nil))) (pa_cons (pe_tup (pa_cons pe_str (pa_cons pe_int pa_nil))) (pa_cons (pe_tup (pa_cons pe_str (pa_cons pe_int pa_nil))) pa_nil))))))))
      (pss_one (ps_ret (pe_tup (StX.pa_star (pv 3) (pa_cons (pe_tup (pa_cons pe_str (pa_cons pe_int pa_nil))) pa_nil))))))))), ?_⟩)
  obtain ⟨T, L, v1, v2, v3, T1, T2, T3, rfl, w0, t1, t2, t3, k1, k2, k3, k⟩ := h
  repeat walk_at "go"
  refine k_is_in t1 ?_
  repeat walk_at "go"
  refine k_demand w0 (fun e1 => ?_) k1
  repeat walk_at "go"
  refine ⟨T, L, v2, v3, T2, T3, rfl, w0, t2, t3, k2 e1, k3 e1, fun tg fe h2 h3 => ?_⟩
  obtain ⟨mn, rfl⟩ : ∃ mn, v1 = .int mn := by cases v1 <;> first | exact ⟨_, rfl⟩ | cases e1
  have := inB_int.mp e1
  obtain ⟨ka, kb⟩ := k mn tg fe rfl this.1 this.2 h2 h3
  repeat walk_at "go"
  subst h2
  subst h3
  cases ef : (tg && fe) with
  | true =>
    repeat walk_at "go"
    exact ka (.inl ef) _ (by walk_at "le") (by walk_at "wd")
  | false =>
    repeat walk_at "go"
    by_cases c : mn = 0
    · rw [decide_eq_true c]
      repeat walk_at "go"
      exact ka (.inr c) _ (by walk_at "le") (by walk_at "wd")
    · rw [decide_eq_false c]
      repeat walk_at "go"
      have kb := kb ef c
      cases tg with
      | false =>
        repeat walk_at "go"
        exact kb _ _ _ (by walk_at "le") (by walk_at "wd") (by walk_at "tu") (by show PdA _ _ [.tuple [.str "take", .int 0], .tuple [.str "write", .int 0], .tuple [.str "drop", .int 0], .tuple [.str "take", .int 0], .tuple [.str "write", .int 0]]; walk_at "pda")
      | true =>
        repeat walk_at "go"
        refine r_star ?_
        repeat walk_at "go"
        refine ⟨_, _, rfl, .inl (Tu.sq (by walk_at "tu")), ?_⟩
        repeat walk_at "go"
        exact kb _ _ _ (by walk_at "le") (by walk_at "wd") (by walk_at "tu") (PdA.append (ds := [.tuple [.str "take", .int 0], .tuple [.str "write", .int 0], .tuple [.str "next"], .tuple [.str "take", .int 1], .tuple [.str "write", .int 1], .tuple [.str "mark", .int 1]]) (es := [.tuple [.str "mark", .int 0]]) (by walk_at "pda") (by walk_at "pda"))
abbrev s_is_doubled_work : Stmt := top 19
theorem sc_is_doubled_work : FnScope ["many", "together", "fenced", "value", "found"] ["many", "together", "fenced", "value"] (defScope s_is_doubled_work) := ⟨rfl, rfl, rfl, by decide +kernel, rfl, by decide +kernel, by decide +kernel⟩
def sp_isdbl (K : PySem.W.Frag) : Sp := fun vs H Q E => ∃ (T : List (Addr × Str)) (L : List En) (v1 v2 v3 v : V) (T1 T2 T3 Ty : String), vs = [v1, v2, v3, v] ∧ Wd T H L ∧ IsTy K H v1 T1 ∧ IsTy K H v2 T2 ∧ IsTy K H v3 T3 ∧ (∀ H', Le H H' → Wd T H' L → IsTy K H' v Ty) ∧
  (inB 0 100 v1 = false → Refuse T L (cBad0 K) "name" "many" H E) ∧ (inB 0 100 v1 = true → isBlV v2 = false → Refuse T L (cBad0 K) "name" "together" H E) ∧ (inB 0 100 v1 = true → isBlV v2 = true → isBlV v3 = false → Refuse T L (cBad0 K) "name" "fenced" H E) ∧
  ∀ (mn : Int) (tg fe : Bool), v1 = .int mn → 0 ≤ mn → mn ≤ 100 → v2 = .bl tg → v3 = .bl fe → (isT Ty "tuple" = false → ∀ H', Le H H' → Wd T H' L → Q (.bl false) H') ∧
    (isT Ty "tuple" = true → ∃ b xs ds, v = .ref b ∧ Tu H b xs ∧ PdA H xs ds ∧ (∀ d ∈ ds, SeqAt.shaped d = true) ∧ ds.length ≤ 900 ∧ ∀ H', Le H H' → Wd T H' L → ∀ r, (match runD mn tg fe ⟨0, [], [none]⟩ ds with
      | none => r = false
      | some st => ∃ n, Dst st.rs n ∧ r = decide (n < st.rs.length)) → Q (.bl r) H')
theorem ok_isdbl (C : Cx0 K mg base) (wd : He.tupB K "WORDS" [.str "take", .str "write", .str "mark", .str "drop"] = true) (o_BadArgument : OBad P w K mg base) (o_NotPossible : ONot P w K mg base) (xN : PySem.W.exmOne K (.ref (cNot0 K)) (.ref (cBad0 K)) = some false) : Cal P w K mg base 9 "is_doubled_work" ["many", "together", "fenced", "value"] (sp_isdbl K) ∧ CalN P w K mg base 9 "is_doubled_work" 3 ["value"] (sp_isdbl K) (fun vs zs => vs ++ zs) := by
  have c_demand := ok_demand (P := P) (w := w) C o_BadArgument
  have c_is_in := ok_is_in (P := P) (w := w) C
  have c_led := ok_led (P := P) (w := w) C wd o_BadArgument o_NotPossible xN
  have mkn_Work := ok_init (P := P) (w := w) C o_BadArgument
  have p_results := ok_results (P := P) (w := w) C
  have len : ∀ vs H Q E, sp_isdbl K vs H Q E → vs.length = 4 := fun vs H Q E h => by
    obtain ⟨T, L, v1, v2, v3, v, T1, T2, T3, Ty, rfl, _⟩ := h
    rfl
  refine (fun body => ⟨C.cal 7 7 rfl rfl sc_is_doubled_work (fun _ _ _ _ _ _ us hl => match us, hl with | [_, _, _, _], _ => rfl) len body, C.calN 7 7 3 (ks := ["value"]) (g := fun us ws => us ++ ws) rfl rfl sc_is_doubled_work (fun r1 r2 => r1.append r2) (fun _ _ _ _ _ _ us ws h1 h2 => match us, h1, ws, h2 with | [_, _, _], _, [_], _ => rfl) len body⟩) (fun f cdv A outer s H vs Q E hr h => ⟨_,
    (pss_cons (ps_expr (pe_f c_demand hr (by first | decide | omega) (passes_call (takes_of rfl rfl rfl rfl) fun _ _ _ _ h => h) (pa_cons (pe_f c_is_in hr (by first | decide | omega) (passes_call (takes_of rfl rfl rfl rfl) fun _ _ _ _ h => h) (pa_cons (pv 0) (pa_cons pe_int (pa_cons (pe_gi (C.int 39)) pa_nil)))) (pa_cons pe_str pa_nil))))
      (pss_cons (ps_expr (pe_f c_demand hr (by first | decide | omega) (passes_call (takes_of rfl rfl rfl rfl) fun _ _ _ _ h => h) (pa_cons (pe_bi (k_isi (K := K) rfl) (C.free 26) (by decide +kernel) (pa_cons (pv 1) (pa_cons (pe_ty "bool" (C.free 30)) pa_nil))) (pa_cons pe_str pa_nil))))
      (pss_cons (ps_expr (pe_f c_demand hr (by first | decide | omega) (passes_call (takes_of rfl rfl rfl rfl) fun _ _ _ _ h => h) (pa_cons (pe_bi (k_isi (K := K) rfl) (C.free 26) (by decide +kernel) (pa_cons (pv 2) (pa_cons (pe_ty "bool" (C.free 30)) pa_nil))) (pa_cons pe_str pa_nil))))
      (pss_cons (ps_set (i := 4) sc_is_doubled_work.nd rfl (Or.inl rfl) (pe_f c_led hr (by first | decide | omega) (passes_call (takes_of rfl rfl rfl rfl) fun _ _ _ _ h => h) (pa_cons (pe_mkN mkn_Work hr (by first | decide | omega) (passes_call (takes_of rfl rfl rfl rfl) fun _ _ _ _ h => h) (pa_cons (pv 0) pa_nil) (pk_cons (pv 1) (pk_cons (pv 2) pk_nil))) (pa_cons (pv 3) pa_nil))))
      (pss_one (ps_ret (pe_and (pe_cmpR op_notN (pv 4) pe_non (nomark _)) (pe_one (pe_cmpR (k_lt (K := K) rfl hr) (pe_lenSetB (K := K) rfl rfl rfl (C.free 31) rfl (C.free 35) (pe_pr p_results hr (by first | decide | omega) passP (pv 4))) (pe_bi (k_lenB (K := K) rfl) (C.free 31) (by decide +kernel) (pa_cons (pe_pr p_results hr (by first | decide | omega) passP (pv 4)) pa_nil)) (nomark _)))))))))), ?_⟩)
  obtain ⟨T, L, v1, v2, v3, v, T1, T2, T3, Ty, rfl, w0, t1, t2, t3, t4, k1, k2, k3, k⟩ := h
  repeat walk_at "go"
  refine k_is_in t1 ?_
  repeat walk_at "go"
  refine k_demand w0 (fun e1 => ?_) k1
  repeat walk_at "go"
  refine r_isiK t2 (by decide) ?_
  rw [isBl_ty t2]
  repeat walk_at "go"
  refine k_demand w0 (fun e2 => ?_) (k2 e1)
  repeat walk_at "go"
  refine r_isiK t3 (by decide) ?_
  rw [isBl_ty t3]
  repeat walk_at "go"
  refine k_demand w0 (fun e3 => ?_) (k3 e1 e2)
  obtain ⟨mn, rfl⟩ : ∃ mn, v1 = .int mn := by cases v1 <;> first | exact ⟨_, rfl⟩ | cases e1
  obtain ⟨tg, rfl⟩ : ∃ tg, v2 = .bl tg := by cases v2 <;> first | exact ⟨_, rfl⟩ | cases e2
  obtain ⟨fe, rfl⟩ : ∃ fe, v3 = .bl fe := by cases v3 <;> first | exact ⟨_, rfl⟩ | cases e3
  have hm := inB_int.mp e1
  obtain ⟨ka, kb⟩ := k mn tg fe rfl hm.1 hm.2 rfl rfl
  repeat walk_at "go"
  refine k_init (by assumption) hm.1 hm.2 fun p q H1 l1 w1 => ?_
  refine ⟨rfl, ?_⟩
  rename_i x H0 l0 wx
  repeat walk_at "go"
  have w1' : Wd T H1 L := w1.tail.tail.tail
  refine ⟨T, _, x, p, q, mn, tg, fe, ⟨0, [], [none]⟩, [.non], v, Ty, rfl, w1, ⟨⟨_, by walk_at "sel"⟩, ⟨_, by walk_at "sel"⟩, ⟨_, by walk_at "sel"⟩⟩, .cons .non .nil, hm.1, hm.2, t4 _ (l0.trans l1) w1', fun et => ?_, fun et => ?_⟩
  · repeat walk_at "go"
    refine ⟨rfl, _, rfl, r_F (by rw [decide_eq_true rfl]; rfl) ?_⟩
    exact ka et _ (by walk_at "le") w1'
  · obtain ⟨b, xs, ds, rfl, tu, hd, sh, ln, kk⟩ := kb et
    refine ⟨b, xs, ds, rfl, tu.le (l0.trans l1), hd.le (l0.trans l1), sh, by omega, by decide, ?_⟩
    have kl := @runD_len mn tg fe ds ⟨0, [], [none]⟩
    cases er : runD mn tg fe ⟨0, [], [none]⟩ ds with
    | none =>
      rw [er] at kk
      intro H2 l2 w2
      repeat walk_at "go"
      refine ⟨rfl, _, rfl, r_F (by rw [decide_eq_true rfl]; rfl) ?_⟩
      exact kk _ (by walk_at "le") w2.tail.tail.tail false rfl
    | some st =>
      rw [er] at kk
      intro b2 p2 q2 us2 H2 l2 w2 hu2
      repeat walk_at "go"
      refine ⟨rfl, _, rfl, r_T (by rw [decide_eq_false (fun z => nomatch z)]; rfl) ?_⟩
      repeat walk_at "go"
      refine r_lenSet ?_
      repeat walk_at "go"
      have hw2 : HasW K (fW K b2 p2 q2 mn tg fe st.mrk st.rs us2 (fW K x p q mn tg fe 0 [] [.non] L)) b2 p2 q2 mn tg fe st.mrk st.rs us2 := ⟨⟨_, by walk_at "sel"⟩, ⟨_, by walk_at "sel"⟩, ⟨_, by walk_at "sel"⟩⟩
      refine ⟨T, _, b2, p2, q2, mn, tg, fe, st.mrk, st.rs, us2, rfl, w2, hw2, fun t3 H3 l3 w3 h3 => ?_⟩
      have lr := runD_len er
      refine ⟨_, st.rs, rfl, .inr h3.sq, by have : (([] : List Int).length) = 0 := rfl; simp only [List.length_nil] at lr; omega, fun n dst => ?_⟩
      repeat walk_at "go"
      refine ⟨T, _, b2, p2, q2, mn, tg, fe, st.mrk, st.rs, us2, rfl, w3, hw2, fun t4 H4 l4 w4 h4 => ?_⟩
      repeat walk_at "go"
      rw [List.length_map, show decide ((n : Int) < ((st.rs.length : Nat) : Int)) = decide (n < st.rs.length) by rw [Bool.eq_iff_iff, decide_eq_true_iff, decide_eq_true_iff]; omega]
      exact kk _ (by walk_at "le") w4.tail.tail.tail.tail.tail.tail _ ⟨n, dst, rfl⟩
end
end K82

local macro_rules | `(tactic| walk_at "wdD") => `(tactic| ((with_reducible apply Wd.pk); (with_reducible assumption); walk_at "pkD"))
local macro_rules | `(tactic| walk_at "ws") => `(tactic| (with_reducible assumption; walk_at "sel"))
local macro_rules | `(tactic| walk_at "nd") => `(tactic| (refine of_decide_eq_true ?_; with_unfolding_all rfl))
local macro_rules | `(tactic| walk_at "lk") => `(tactic| with_unfolding_all rfl)
local macro_rules | `(tactic| walk_at "sd") => `(tactic| first
  | (with_reducible apply b_ixT; walk_at "tu"; walk_at "ati")
  | (with_reducible apply b_ixL; walk_at "ws"; walk_at "ati")
  | (with_reducible apply n_rget; walk_at "ws"; walk_at "lk")
  | (with_reducible apply n_rset; walk_at "ws"; walk_at "nd"; (with_unfolding_all rfl); intro _ _ _)
  | (with_reducible apply b_lenT; walk_at "tu")
  | (with_reducible apply b_lenI; walk_at "ws")
  | (with_reducible apply b_lenL; walk_at "ws")
  | with_reducible refine r_dnew ?_
  | (with_reducible apply n_dnew; with_reducible assumption; intro _ _ _ _)
  | with_reducible refine r_disp ?_
  | (with_reducible apply n_disp; with_reducible assumption; intro _ _ _ _)
  | with_reducible refine r_pps ?_
  | with_reducible refine r_pps0 ?_
  | (with_reducible apply n_dq; walk_at "ws"; (with_unfolding_all rfl); walk_at "nd"; walk_at "nd"; intro _ _ _))

namespace K82
section
variable {P : Program} {w : World} {K : PySem.W.Frag} {mg : Str → Option Value} {base : Heap}
/-! ### the law's own work: a record -/
def of (mn : Int) (tg fe : Bool) (mk : Int) (p q : Addr) : List (Str × V) := [("many", .int mn), ("together", .bl tg), ("fenced", .bl fe), ("mark", .int mk), ("results", .ref p), ("holds", .ref q)]
abbrev fO (a p q : Addr) (mn : Int) (tg fe : Bool) (mk : Int) (rs : List Int) (us : List V) (F : List En) : List En := (a, isR (of mn tg fe mk p q)) :: (p, isL (rs.map V.int)) :: (q, isL us) :: F
abbrev s__law_work : Stmt := top 27
theorem sc__law_work : FnScope ["many", "together", "fenced"] ["many", "together", "fenced"] (defScope s__law_work) := ⟨rfl, rfl, rfl, by decide +kernel, rfl, by decide +kernel, by decide +kernel⟩
def sp_lwork : Sp := fun vs H Q _ => ∃ (T : List (Addr × Str)) (L : List En) (mn : Int) (tg fe : Bool), vs = [.int mn, .bl tg, .bl fe] ∧ Wd T H L ∧ ∀ a p q H', Le H H' → Wd T H' (fO a p q mn tg fe 0 [] [.non] L) → Q (.ref a) H'
theorem ok__law_work (C : Cx0 K mg base) : Cal P w K mg base 1 "_law_work" ["many", "together", "fenced"] sp_lwork := by
  refine C.cal 14 14 rfl rfl sc__law_work (fun _ _ _ _ _ _ us hl => match us, hl with | [_, _, _], _ => rfl) (fun vs H Q E h => ?_) (fun f cdv A outer s H vs Q E hr h => ⟨_, PSs.nox
    (pss_one (ps_ret (pe_disp (pps_cons pe_str (pv 0) (pps_cons pe_str (pv 1) (pps_cons pe_str (pv 2) (pps_cons pe_str pe_int (pps_cons pe_str (pe_lst pa_nil) (pps_cons pe_str (pe_lst (pa_cons pe_non pa_nil)) pps_nil)))))) rfl rfl (by decide) (by decide)))), ?_⟩)
  · obtain ⟨T, L, mn, tg, fe, rfl, _⟩ := h
    rfl
  · obtain ⟨T, L, mn, tg, fe, rfl, w0, k⟩ := h
    repeat walk_at "go"
    exact k _ _ _ _ (by walk_at "le") (by walk_at "wdD")
theorem n_rep1 {T : List (Addr × Str)} {H : Hp} {L R : List En} {Q : VK} {a : Addr} {v : V} {c : Bool} (w : Wd T H L) (s : Sel (a, isL [v]) L R) (q : ∀ p H', Le H H' → Wd T H' ((p, isL (if c then [v] else [])) :: L) → Q (.ref p) H') : rMulA K (.ref a) (.int (if c then 1 else 0)) H Q := by
  refine .inr (.inl ⟨a, _, [v], rfl, rfl, w.lst s, by cases c <;> decide, by cases c <;> decide, (by cases c with | false => exact Nat.zero_le _ | true => exact (show 1 ≤ sizeLine by decide)), ?_⟩)
  cases c
  · exact n_newL (N := fun p H2 => Q (.ref p) H2) w q
  · exact n_newL (N := fun p H2 => Q (.ref p) H2) w q
theorem n_neB {H : Hp} {Q : VK} {x y : Bool} (q : Q (.bl (!decide (x = y))) H) : rNeA K (.bl x) (.bl y) H Q := by
  refine n_ne (Pd.bl x).dp (Pd.bl y).dp (by cases x <;> decide +kernel) (by cases y <;> decide +kernel) ?_
  rw [show PyData.eqv (.bool x) (.bool y) = decide (x = y) by cases x <;> cases y <;> decide +kernel]
  exact q
theorem nxtB_take {tg fe : Bool} {st : WS} {x : Str} {n : Nat} (c : x = "take") : nxtB tg fe st (.on x n) = { st with hs := st.hs.set n (some (st.mrk, false)) } := if_pos c
theorem nxtB_drop {tg fe : Bool} {st : WS} {x : Str} {n : Nat} (c1 : ¬ x = "take") (c : x = "drop") : nxtB tg fe st (.on x n) = { st with hs := st.hs.set n none } := (if_neg c1).trans (if_pos c)
theorem nxtB_write {tg fe : Bool} {st : WS} {x : Str} {n : Nat} {k : Int} {b : Bool} (c1 : ¬ x = "take") (c2 : ¬ x = "drop") (hh : st.hs[n]? = some (some (k, b))) (c : x = "write") : nxtB tg fe st (.on x n) = { st with rs := (if tg then st.rs else st.rs ++ [k]), hs := st.hs.set n (some (k, true)) } := by
  refine ((if_neg c1).trans (if_neg c2)).trans ?_
  show (match st.hs[n]? with | some (some (k, _)) => _ | _ => _) = _
  rw [hh]
  exact if_pos c
theorem nxtB_mark {tg fe : Bool} {st : WS} {x : Str} {n : Nat} {k : Int} {b : Bool} (c1 : ¬ x = "take") (c2 : ¬ x = "drop") (hh : st.hs[n]? = some (some (k, b))) (c : ¬ x = "write") : nxtB tg fe st (.on x n) = if fe = true ∧ n + 1 ≠ st.hs.length then { st with hs := st.hs.set n none } else ⟨k + 1, if tg then st.rs ++ [k] else st.rs, st.hs.set n none⟩ := by
  refine ((if_neg c1).trans (if_neg c2)).trans ?_
  show (match st.hs[n]? with | some (some (k, _)) => _ | _ => _) = _
  rw [hh]
  exact if_neg c
abbrev s__law_work_do : Stmt := top 26
theorem sc__law_work_do : FnScope ["own", "step", "holds", "held"] ["own", "step"] (defScope s__law_work_do) := ⟨rfl, rfl, rfl, by decide +kernel, rfl, by decide +kernel, by decide +kernel⟩
def sp_ldo (K : PySem.W.Frag) : Sp := fun vs H Q _ => ∃ (T : List (Addr × Str)) (F : List En) (a p q : Addr) (mn : Int) (tg fe : Bool) (st : WS) (us : List V) (v : V) (s : Stp), vs = [.ref a, v] ∧ Wd T H (fO a p q mn tg fe st.mrk st.rs us F) ∧ PdA H us (st.hs.map holdD) ∧ Pd H v (stpD s) ∧ OkS s ∧ st.rs.length ≤ 1000 ∧ st.hs.length ≤ 12 ∧
  ∀ p' q' us' H', Le H H' → Wd T H' (fO a p' q' mn tg fe (if canB mn st s then nxtB tg fe st s else st).mrk (if canB mn st s then nxtB tg fe st s else st).rs us' F) → PdA H' us' ((if canB mn st s then nxtB tg fe st s else st).hs.map holdD) → Q (.bl (canB mn st s)) H'
theorem ok__law_work_do (C : Cx0 K mg base) : Cal P w K mg base 1 "_law_work_do" ["own", "step"] (sp_ldo K) := by
  refine C.cal 13 13 rfl rfl sc__law_work_do (fun _ _ _ _ _ _ us hl => match us, hl with | [_, _], _ => rfl) (fun vs H Q E h => ?_) (fun f cdv A outer s H vs Q E hr h => ⟨_, PSs.nox
    (pss_cons (ps_set (i := 2) sc__law_work_do.nd rfl (Or.inl rfl) (pe_ix (k_ixB (K := K) rfl hr) (pv 0) pe_str (fun _ _ => rfl)))
      (pss_cons (ps_if (pt_cmpR (k_eq (K := K) rfl hr) (pe_ix (k_ixB (K := K) rfl hr) (pv 1) pe_int (fun _ _ => rfl)) pe_str (nomark _)) (pss_cons (ps_if (pt_cmpR (k_eq (K := K) rfl hr) (pe_bi (k_lenB (K := K) rfl) (C.free 31) (by decide +kernel) (pa_cons (pv 2) pa_nil)) pe_int (nomark _)) (pss_one (ps_ret pe_bl)) pss_nil)
      (pss_cons (ps_asg (pe_op (k_add (K := K) rfl) (pv 2) (pe_lst (pa_cons pe_non pa_nil))) (pg_sub (pv 0) pe_str (k_setB hr)))
      (pss_one (ps_ret pe_bl)))) pss_nil)
      (pss_cons (ps_if (pt_cmpR (k_ge (K := K) rfl hr) (pe_ix (k_ixB (K := K) rfl hr) (pv 1) pe_int (fun _ _ => rfl)) (pe_bi (k_lenB (K := K) rfl) (C.free 31) (by decide +kernel) (pa_cons (pv 2) pa_nil)) (nomark _)) (pss_one (ps_ret pe_bl)) pss_nil)
      (pss_cons (ps_set (i := 3) sc__law_work_do.nd rfl (Or.inl rfl) (pe_ix (k_ixB (K := K) rfl hr) (pv 2) (pe_ix (k_ixB (K := K) rfl hr) (pv 1) pe_int (fun _ _ => rfl)) (fun _ _ => rfl)))
      (pss_cons (ps_if (pt_cmpR (k_eq (K := K) rfl hr) (pe_ix (k_ixB (K := K) rfl hr) (pv 1) pe_int (fun _ _ => rfl)) pe_str (nomark _)) (pss_cons (ps_asg pe_non (pg_sub (pv 2) (pe_ix (k_ixB (K := K) rfl hr) (pv 1) pe_int (fun _ _ => rfl)) (k_setB hr)))
      (pss_one (ps_ret pe_bl))) pss_nil)
      (pss_cons (ps_if (pt_cmpR (k_eq (K := K) rfl hr) (pe_ix (k_ixB (K := K) rfl hr) (pv 1) pe_int (fun _ _ => rfl)) pe_str (nomark _)) (pss_cons (ps_if (PW.pt (pw_or (pt_cmpR op_notN (pv 3) pe_non (nomark _)) (pw_or1 (pt_cmpR (k_ge (K := K) rfl hr) (pe_ix (k_ixB (K := K) rfl hr) (pv 0) pe_str (fun _ _ => rfl)) (pe_ix (k_ixB (K := K) rfl hr) (pv 0) pe_str (fun _ _ => rfl)) (nomark _))))) (pss_one (ps_ret pe_bl)) pss_nil)
      (pss_cons (ps_asg (pe_tup (pa_cons (pe_ix (k_ixB (K := K) rfl hr) (pv 0) pe_str (fun _ _ => rfl)) (pa_cons pe_bl pa_nil))) (pg_sub (pv 2) (pe_ix (k_ixB (K := K) rfl hr) (pv 1) pe_int (fun _ _ => rfl)) (k_setB hr)))
      (pss_one (ps_ret pe_bl)))) pss_nil)
      (pss_cons (ps_if (PW.pt (pw_or (pt_cmpR op_isN (pv 3) pe_non (nomark _)) (pw_or1 (pt_cmpR (k_ne (K := K) rfl hr) (pe_ix (k_ixB (K := K) rfl hr) (pv 3) pe_int (fun _ _ => rfl)) (pe_cmpR (k_eq (K := K) rfl hr) (pe_ix (k_ixB (K := K) rfl hr) (pv 1) pe_int (fun _ _ => rfl)) pe_str (nomark _)) (nomark _))))) (pss_one (ps_ret pe_bl)) pss_nil)
      (pss_cons (ps_if (pt_cmpR (k_eq (K := K) rfl hr) (pe_ix (k_ixB (K := K) rfl hr) (pv 1) pe_int (fun _ _ => rfl)) pe_str (nomark _)) (pss_cons (ps_asg (pe_tup (pa_cons (pe_ix (k_ixB (K := K) rfl hr) (pv 3) pe_int (fun _ _ => rfl)) (pa_cons pe_bl pa_nil))) (pg_sub (pv 2) (pe_ix (k_ixB (K := K) rfl hr) (pv 1) pe_int (fun _ _ => rfl)) (k_setB hr)))
      (pss_cons (ps_asg (pe_op (k_add (K := K) rfl) (pe_ix (k_ixB (K := K) rfl hr) (pv 0) pe_str (fun _ _ => rfl)) (pe_op (k_mul (K := K) rfl) (pe_lst (pa_cons (pe_ix (k_ixB (K := K) rfl hr) (pv 3) pe_int (fun _ _ => rfl)) pa_nil)) (pe_bt cr_int1 (C.free 27) (by decide +kernel) (pa_cons (pe_not (pe_ix (k_ixB (K := K) rfl hr) (pv 0) pe_str (fun _ _ => rfl))) pa_nil)))) (pg_sub (pv 0) pe_str (k_setB hr)))
      (pss_one (ps_ret pe_bl)))) pss_nil)
      (pss_cons (ps_asg pe_non (pg_sub (pv 2) (pe_ix (k_ixB (K := K) rfl hr) (pv 1) pe_int (fun _ _ => rfl)) (k_setB hr)))
      (pss_cons (ps_if (PW.pt (pw_and (k_truth (K := K) rfl (pe_ix (k_ixB (K := K) rfl hr) (pv 0) pe_str (fun _ _ => rfl)) (by intro _; rfl)) (pw_and1 (pt_cmpR (k_lt (K := K) rfl hr) (pe_ix (k_ixB (K := K) rfl hr) (pv 1) pe_int (fun _ _ => rfl)) (pe_op op_sub (pe_bi (k_lenB (K := K) rfl) (C.free 31) (by decide +kernel) (pa_cons (pv 2) pa_nil)) pe_int) (nomark _))))) (pss_one (ps_ret pe_bl)) pss_nil)
      (pss_cons (ps_asg (pe_op (k_add (K := K) rfl) (pe_ix (k_ixB (K := K) rfl hr) (pv 0) pe_str (fun _ _ => rfl)) (pe_op (k_mul (K := K) rfl) (pe_lst (pa_cons (pe_ix (k_ixB (K := K) rfl hr) (pv 3) pe_int (fun _ _ => rfl)) pa_nil)) (pe_bt cr_int1 (C.free 27) (by decide +kernel) (pa_cons (pe_ix (k_ixB (K := K) rfl hr) (pv 0) pe_str (fun _ _ => rfl)) pa_nil)))) (pg_sub (pv 0) pe_str (k_setB hr)))
      (pss_cons (ps_asg (pe_op (k_add (K := K) rfl) (pe_ix (k_ixB (K := K) rfl hr) (pv 3) pe_int (fun _ _ => rfl)) pe_int) (pg_sub (pv 0) pe_str (k_setB hr)))
      (pss_one (ps_ret pe_bl)))))))))))))), ?_⟩)
  · obtain ⟨T, F, a, p, q, mn, tg, fe, st, us, v, s, rfl, _⟩ := h
    rfl
  · obtain ⟨T, F, a, p, q, mn, tg, fe, st, us, v, s, rfl, w0, hu, hv, ok, l1, l2, k⟩ := h
    have el : us.length = st.hs.length := by rw [hu.length, List.length_map]
    match s, ok, hv, k with
    | .nxt, ok, hv, k =>
      obtain ⟨b, rfl, tu⟩ := Pd.nx hv
      repeat walk_at "go"
      refine r_D (fun c => ?_) (fun c => ?_)
      · have cb : canB mn st .nxt = false := decide_eq_false (by omega)
        rw [cb, if_neg (by decide)] at k
        repeat walk_at "go"
        exact k _ _ _ _ (by walk_at "le") (by walk_at "wd") hu
      · have cb : canB mn st .nxt = true := decide_eq_true (by omega)
        rw [cb, if_pos rfl] at k
        repeat walk_at "go"
        refine n_catL (by assumption) (by walk_at "sel") (by walk_at "sel") (Nat.le_trans (by rw [el]; show st.hs.length + 1 ≤ 13; omega) (by decide : 13 ≤ sizeLine)) fun r H2 l2 w2 => ?_
        repeat walk_at "go"
        refine k _ _ _ _ (by walk_at "le") (by walk_at "wdD") ?_
        show PdA _ _ ((st.hs ++ [none]).map holdD)
        rw [List.map_append]
        exact (hu.le (by walk_at "le")).append (.cons .non .nil)
    | .on x n, ok, hv, k =>
      obtain ⟨b, rfl, tu⟩ := Pd.on hv
      repeat walk_at "go"
      rw [decide_eq_false (words_ne ok.1)]
      repeat walk_at "go"
      rw [el]
      refine r_D (fun c => ?_) (fun c => ?_)
      · rw [canB_off (by omega), if_neg (by decide)] at k
        repeat walk_at "go"
        exact k _ _ _ _ (by walk_at "le") (by walk_at "wd") hu
      obtain ⟨h, u0, hu0, hh, pp⟩ := holds_at hu (n := n) (by omega)
      have cn : n < us.length := by omega
      rw [canB_on hh] at k
      unfold canH at k
      repeat walk_at "go"
      refine b_ixN (by assumption) (by walk_at "sel") hu0 ?_
      repeat walk_at "go"
      refine r_D (fun c2 => ?_) (fun c2 => ?_)
      · have c1 : ¬ x = "take" := by rw [c2]; decide +kernel
        rw [if_neg c1, if_pos c2, if_pos rfl, nxtB_drop c1 c2] at k
        repeat walk_at "go"
        refine b_setL (by assumption) (by walk_at "sel") cn fun H2 l2 w2 => ?_
        repeat walk_at "go"
        refine k _ _ _ _ (by walk_at "le") (by walk_at "wdD") ?_
        show PdA _ _ ((st.hs.set n none).map holdD)
        rw [List.map_set]
        exact PdA.set n (hu.le (by walk_at "le")) .non
      · repeat walk_at "go"
        refine r_D (fun c1 => ?_) (fun c1 => ?_)
        · rw [if_pos c1, nxtB_take c1] at k
          repeat walk_at "go"
          match h, pp, k with
          | some (k0, b0), pp, k =>
            obtain ⟨c, ys, rfl, t1, t2⟩ := pp.tupV
            rw [show ((some (k0, b0) : Hold).isNone && decide (st.mrk < mn)) = false from rfl, if_neg (by decide)] at k
            refine ⟨rfl, _, rfl, r_T (by rw [decide_eq_false (fun z => nomatch z)]; rfl) ?_⟩
            repeat walk_at "go"
            exact k _ _ _ _ (by walk_at "le") (by walk_at "wd") hu
          | none, pp, k =>
            cases pp
            refine ⟨rfl, _, rfl, r_F (by rw [decide_eq_true rfl]; rfl) ?_⟩
            rw [show ((none : Hold).isNone && decide (st.mrk < mn)) = decide (st.mrk < mn) from rfl] at k
            repeat walk_at "go"
            by_cases cm : st.mrk < mn
            · rw [decide_eq_true cm, if_pos rfl] at k
              refine r_F (decide_eq_false (by omega)) ?_
              repeat walk_at "go"
              refine b_setL (by assumption) (by walk_at "sel") cn fun H2 l2 w2 => ?_
              repeat walk_at "go"
              refine k _ _ _ _ (by walk_at "le") (by walk_at "wdD") ?_
              show PdA _ _ ((st.hs.set n (some (st.mrk, false))).map holdD)
              rw [List.map_set]
              exact PdA.set n (hu.le (by walk_at "le")) (.tup (by walk_at "tu") (.cons (.int _) (.cons (.bl _) .nil)))
            · rw [decide_eq_false cm, if_neg (by decide)] at k
              refine r_T (decide_eq_true (by omega)) ?_
              repeat walk_at "go"
              exact k _ _ _ _ (by walk_at "le") (by walk_at "wd") hu
        · rw [if_neg c1, if_neg c2] at k
          repeat walk_at "go"
          match h, hh, pp, k with
          | none, hh, pp, k =>
            cases pp
            refine ⟨rfl, _, rfl, r_T (by rw [decide_eq_true rfl]) ?_⟩
            rw [show holdB x none = false from rfl, if_neg (by decide)] at k
            repeat walk_at "go"
            exact k _ _ _ _ (by walk_at "le") (by walk_at "wd") hu
          | some (k0, b0), hh, pp, k =>
            obtain ⟨c, ys, rfl, t1, t2⟩ := pp.tupV
            match ys, t2 with
            | [_, _], .cons g1 (.cons g2 .nil) =>
            obtain rfl := g1.intV
            obtain rfl := g2.blV
            refine ⟨rfl, _, rfl, r_F (by rw [decide_eq_false (fun z => nomatch z)]) ?_⟩
            rw [show holdB x (some (k0, b0)) = decide (b0 = decide (x = "mark")) from rfl] at k
            repeat walk_at "go"
            refine n_neB ?_
            repeat walk_at "go"
            cases cb : decide (b0 = decide (x = "mark")) with
            | false =>
              rw [cb, if_neg (by decide)] at k
              repeat walk_at "go"
              exact k _ _ _ _ (by walk_at "le") (by walk_at "wd") hu
            | true =>
              rw [cb, if_pos rfl] at k
              repeat walk_at "go"
              refine r_D (fun c3 => ?_) (fun c3 => ?_)
              · rw [nxtB_write c1 c2 hh c3] at k
                repeat walk_at "go"
                refine b_setL (by assumption) (by walk_at "sel") cn fun H2 l2 w2 => ?_
                repeat walk_at "go"
                refine n_rep1 (by assumption) (by walk_at "sel") fun r H3 l3 w3 => ?_
                repeat walk_at "go"
                have fin : ∀ u H9, Le H H9 → Tu H9 u [.int k0, .bl true] → PdA H9 (us.set n (.ref u)) ((st.hs.set n (some (k0, true))).map holdD) := fun u H9 l9 t9 => by
                  rw [List.map_set]
                  exact PdA.set n (hu.le l9) (.tup t9 (.cons (.int _) (.cons (.bl _) .nil)))
                cases tg
                · refine n_catI (ns := st.rs) (ms := [k0]) (by assumption) (by walk_at "sel") (by walk_at "sel") (by rfl) (by rfl) (by show st.rs.length + 1 ≤ _; omega) fun r2 H4 l4 w4 => ?_
                  repeat walk_at "go"
                  exact k _ _ _ _ (by walk_at "le") (by walk_at "wdD") (fin _ _ (by walk_at "le") (by walk_at "tu"))
                · refine n_catI (ns := st.rs) (ms := []) (by assumption) (by walk_at "sel") (by walk_at "sel") (by rfl) (by rfl) (by show st.rs.length + 0 ≤ _; omega) fun r2 H4 l4 w4 => ?_
                  rw [List.append_nil] at w4
                  repeat walk_at "go"
                  exact k _ _ _ _ (by walk_at "le") (by walk_at "wdD") (fin _ _ (by walk_at "le") (by walk_at "tu"))
              · rw [nxtB_mark c1 c2 hh c3] at k
                repeat walk_at "go"
                refine b_setL (by assumption) (by walk_at "sel") cn fun H2 l2 w2 => ?_
                have fin : ∀ H9, Le H H9 → PdA H9 (us.set n .non) ((st.hs.set n none).map holdD) := fun H9 l9 => by
                  rw [List.map_set]
                  exact PdA.set n (hu.le l9) .non
                repeat walk_at "go"
                have both : ∀ {A : Prop}, (fe = true ∧ n + 1 ≠ st.hs.length → A) → (¬ (fe = true ∧ n + 1 ≠ st.hs.length) → A) → A := fun f g => (Classical.em _).elim f g
                refine both (fun cc => ?_) (fun cc => ?_)
                · rw [if_pos cc] at k
                  rw [cc.1, if_pos rfl]
                  repeat walk_at "go"
                  rw [List.length_set, decide_eq_true (by omega)]
                  repeat walk_at "go"
                  exact k _ _ _ _ (by walk_at "le") (by walk_at "wdD") (fin _ (by walk_at "le"))
                · rw [if_neg cc] at k
                  cases fe with
                  | true =>
                    rw [if_pos rfl]
                    repeat walk_at "go"
                    rw [List.length_set, decide_eq_false (fun z => cc ⟨rfl, by omega⟩)]
                    repeat walk_at "go"
                    refine n_rep1 (by assumption) (by walk_at "sel") fun r H3 l3 w3 => ?_
                    repeat walk_at "go"
                    cases tg
                    · refine n_catI (ns := st.rs) (ms := []) (by assumption) (by walk_at "sel") (by walk_at "sel") (by rfl) (by rfl) (by show st.rs.length + 0 ≤ _; omega) fun r2 H4 l4 w4 => ?_
                      rw [List.append_nil] at w4
                      repeat walk_at "go"
                      exact k _ _ _ _ (by walk_at "le") (by walk_at "wdD") (fin _ (by walk_at "le"))
                    · refine n_catI (ns := st.rs) (ms := [k0]) (by assumption) (by walk_at "sel") (by walk_at "sel") (by rfl) (by rfl) (by show st.rs.length + 1 ≤ _; omega) fun r2 H4 l4 w4 => ?_
                      repeat walk_at "go"
                      exact k _ _ _ _ (by walk_at "le") (by walk_at "wdD") (fin _ (by walk_at "le"))
                  | false =>
                    rw [if_neg (by decide)]
                    repeat walk_at "go"
                    refine n_rep1 (by assumption) (by walk_at "sel") fun r H3 l3 w3 => ?_
                    repeat walk_at "go"
                    cases tg
                    · refine n_catI (ns := st.rs) (ms := []) (by assumption) (by walk_at "sel") (by walk_at "sel") (by rfl) (by rfl) (by show st.rs.length + 0 ≤ _; omega) fun r2 H4 l4 w4 => ?_
                      rw [List.append_nil] at w4
                      repeat walk_at "go"
                      exact k _ _ _ _ (by walk_at "le") (by walk_at "wdD") (fin _ (by walk_at "le"))
                    · refine n_catI (ns := st.rs) (ms := [k0]) (by assumption) (by walk_at "sel") (by walk_at "sel") (by rfl) (by rfl) (by show st.rs.length + 1 ≤ _; omega) fun r2 H4 l4 w4 => ?_
                      repeat walk_at "go"
                      exact k _ _ _ _ (by walk_at "le") (by walk_at "wdD") (fin _ (by walk_at "le"))
end
end K82

local macro_rules | `(tactic| walk_at "wdD") => `(tactic| ((with_reducible apply Wd.pk); (with_reducible assumption); walk_at "pkD"))
local macro_rules | `(tactic| walk_at "ws") => `(tactic| (with_reducible assumption; walk_at "sel"))
local macro_rules | `(tactic| walk_at "nd") => `(tactic| (refine of_decide_eq_true ?_; with_unfolding_all rfl))
local macro_rules | `(tactic| walk_at "lk") => `(tactic| with_unfolding_all rfl)

namespace K82
section
variable {P : Program} {w : World} {K : PySem.W.Frag} {mg : Str → Option Value} {base : Heap}
abbrev s__law_roll : Stmt := top 22
theorem sc__law_roll : FnScope ["dice", "total", "found"] ["dice", "total"] (defScope s__law_roll) := ⟨rfl, rfl, rfl, by decide +kernel, rfl, by decide +kernel, by decide +kernel⟩
def sp_roll : Sp := fun vs H Q _ => ∃ (d : Addr) (t : Int) (n : Nat), vs = [.ref d, .int t] ∧ Dice n H d ∧ n < 1000000000000 ∧ 0 < t ∧ t < 1073741824 ∧
  ∀ r H', 0 ≤ r → r < t → ExB d H H' → Dice (n + 1) H' d → Q (.int r) H'
theorem ok__law_roll (C : Cx0 K mg base) : Cal P w K mg base 1 "_law_roll" ["dice", "total"] sp_roll := by
  refine C.cal 9 9 rfl rfl sc__law_roll (fun _ _ _ _ _ _ us hl => match us, hl with | [_, _], _ => rfl) (fun vs H Q E h => ?_) (fun f cdv A outer s H vs Q E hr h => ⟨_, PSs.nox
    (pss_cons (ps_if (pt_cmpR (k_gt (K := K) rfl hr) (pe_ix (k_ix (K := K) rfl) (pv 0) pe_int (fun _ _ => rfl)) pe_int (nomark _)) (pss_cons (ps_set (i := 2) sc__law_roll.nd rfl (Or.inl rfl) (pe_op op_modN (pe_bt cr_int1 (C.free 27) (by decide +kernel) (pa_cons (pe_ix (k_ix (K := K) rfl) (pv 0) pe_int (fun _ _ => rfl)) pa_nil)) (pv 1)))
      (pss_cons (ps_asg (pe_op op_fdivN (pe_ix (k_ix (K := K) rfl) (pv 0) pe_int (fun _ _ => rfl)) (pv 1)) (pg_sub (pv 0) pe_int set_list))
      (pss_one (ps_ret (pv 2))))) pss_nil)
      (pss_cons (ps_asg (pe_op (k_add (K := K) rfl) (pe_ix (k_ix (K := K) rfl) (pv 0) pe_int (fun _ _ => rfl)) pe_int) (pg_sub (pv 0) pe_int set_list))
      (pss_cons (ps_asg (pe_op op_modN (pe_bt cr_int1 (C.free 27) (by decide +kernel) (pa_cons (pe_op (k_add (K := K) rfl) (pe_op (k_add (K := K) rfl) (pe_op (k_mul (K := K) rfl) (pe_ix (k_ix (K := K) rfl) (pv 0) pe_int (fun _ _ => rfl)) pe_int) (pe_op (k_mul (K := K) rfl) (pe_op (k_mul (K := K) rfl) (pe_ix (k_ix (K := K) rfl) (pv 0) pe_int (fun _ _ => rfl)) (pe_ix (k_ix (K := K) rfl) (pv 0) pe_int (fun _ _ => rfl))) pe_int)) pe_int) pa_nil)) pe_int) (pg_sub (pv 0) pe_int set_list))
      (pss_one (ps_ret (pe_op op_modN (pe_bt cr_int1 (C.free 27) (by decide +kernel) (pa_cons (pe_op op_fdivN (pe_ix (k_ix (K := K) rfl) (pv 0) pe_int (fun _ _ => rfl)) pe_int) pa_nil)) (pv 1))))))), ?_⟩)
  · obtain ⟨d, t, n, rfl, _⟩ := h
    rfl
  · obtain ⟨d, t, n, rfl, ⟨x, y, z, hd, x0, y0, y1, z0, z1⟩, hn, t0, t1, k⟩ := h
    repeat walk_at "rd"
    refine r_ixLI (i := 0) (sqL_of hd) rfl ?_
    repeat walk_at "rd"
    by_cases c : 0 < x
    · refine r_T (decide_eq_true c) ?_
      repeat walk_at "rd"
      refine r_ixLI (i := 0) (sqL_of hd) rfl ?_
      repeat walk_at "rd"
      refine r_modI (by omega) ?_
      repeat walk_at "rd"
      refine r_ixLI (i := 0) (sqL_of hd) rfl ?_
      repeat walk_at "rd"
      refine r_divI ⟨by omega, by omega⟩ ?_
      repeat walk_at "rd"
      refine r_setL (i := 0) hd (show 0 < 3 by decide) ?_
      repeat walk_at "rd"
      rw [Int.fmod_eq_emod_of_nonneg _ (by omega), Int.fdiv_eq_ediv_of_nonneg _ (by omega)]
      exact k _ _ (Int.emod_nonneg _ (by omega)) (Int.emod_lt_of_pos _ t0) ExB.put ⟨x / t, y, z, upd_same, Int.ediv_nonneg x0 (by omega), y0, y1, z0, by omega⟩
    · refine r_F (decide_eq_false c) ?_
      repeat walk_at "rd"
      refine r_ixLI (i := 2) (sqL_of hd) rfl ?_
      repeat walk_at "rd"
      refine r_setL (i := 2) hd (show 2 < 3 by decide) ?_
      repeat walk_at "rd"
      have h1 : upd H d (.lst (List.set ([x, y, z].map V.int) 2 (.int (z + 1)))) d = some (.lst ([x, y, z + 1].map V.int)) := upd_same
      refine r_ixLI (i := 1) (sqL_of h1) rfl ?_
      repeat walk_at "rd"
      refine r_mulI (.inr (by omega)) ?_
      repeat walk_at "rd"
      refine r_ixLI (i := 2) (sqL_of h1) rfl ?_
      repeat walk_at "rd"
      refine r_ixLI (i := 2) (sqL_of h1) rfl ?_
      repeat walk_at "rd"
      refine r_mulI (.inr (by omega)) ?_
      repeat walk_at "rd"
      refine r_mulI (.inr (by omega)) ?_
      repeat walk_at "rd"
      refine r_modI (by decide) ?_
      repeat walk_at "rd"
      refine r_setL (i := 1) h1 (show 1 < 3 by decide) ?_
      repeat walk_at "rd"
      rw [Int.fmod_eq_emod_of_nonneg _ (by decide)]
      obtain ⟨u, eu⟩ : ∃ u, u = (y * 52501 + (z + 1) * (z + 1) * 1009 + 77) % 2147480009 := ⟨_, rfl⟩
      rw [← eu]
      have u0 : 0 ≤ u := by rw [eu]; exact Int.emod_nonneg _ (by decide)
      have u1 : u < 2147480009 := by rw [eu]; exact Int.emod_lt_of_pos _ (by decide)
      have h2 : ∀ H0 : Hp, upd H0 d (.lst (List.set ([x, y, z + 1].map V.int) 1 (.int u))) d = some (.lst ([x, u, z + 1].map V.int)) := fun _ => upd_same
      refine r_ixLI (i := 1) (sqL_of (h2 _)) rfl ?_
      repeat walk_at "rd"
      refine r_divI ⟨by decide, by decide⟩ ?_
      repeat walk_at "rd"
      refine r_modI (by omega) ?_
      repeat walk_at "rd"
      rw [Int.fmod_eq_emod_of_nonneg _ (by omega)]
      exact k _ _ (Int.emod_nonneg _ (by omega)) (Int.emod_lt_of_pos _ t0) (ExB.trans ExB.put ExB.put) ⟨x, u, z + 1, h2 _, x0, u0, u1, by omega, by omega⟩
abbrev s__law_pick : Stmt := top 23
theorem sc__law_pick : FnScope ["dice", "things"] ["dice", "things"] (defScope s__law_pick) := ⟨rfl, rfl, rfl, by decide +kernel, rfl, by decide +kernel, by decide +kernel⟩
def sp_pick (K : PySem.W.Frag) : Sp := fun vs H Q _ => ∃ (d a : Addr) (k : Sk) (xs : List V) (n : Nat), vs = [.ref d, .ref a] ∧ Dice n H d ∧ n < 1000000000000 ∧ a ≠ d ∧ k.at K H a xs ∧ 0 < xs.length ∧ xs.length < 1000000 ∧
  ∀ (i : Nat) v H', xs[i]? = some v → ExB d H H' → Dice (n + 1) H' d → Q v H'
theorem ok__law_pick (C : Cx0 K mg base) : Cal P w K mg base 2 "_law_pick" ["dice", "things"] (sp_pick K) := by
  have c__law_roll := ok__law_roll (P := P) (w := w) C
  refine C.cal 10 10 rfl rfl sc__law_pick (fun _ _ _ _ _ _ us hl => match us, hl with | [_, _], _ => rfl) (fun vs H Q E h => ?_) (fun f cdv A outer s H vs Q E hr h => ⟨_, PSs.nox
    (pss_one (ps_ret (pe_ix (k_ix (K := K) rfl) (pv 1) (pe_f c__law_roll hr (by first | decide | omega) passL (pa_cons (pv 0) (pa_cons (pe_bi (k_len (K := K) rfl) (C.free 31) (by decide +kernel) (pa_cons (pv 1) pa_nil)) pa_nil))) (fun _ _ => rfl)))), ?_⟩)
  · obtain ⟨d, a, k, xs, n, rfl, _⟩ := h
    rfl
  · obtain ⟨d, a, k, xs, n, rfl, hd, hn, ne, ha, l0, l1, q⟩ := h
    repeat walk_at "rd"
    refine r_lenS ha ?_
    repeat walk_at "rd"
    refine ⟨d, _, n, rfl, hd, hn, by omega, by omega, fun r H' r0 r1 e h' => ?_⟩
    obtain ⟨i, rfl⟩ := Int.eq_ofNat_of_zero_le r0
    have hi : i < xs.length := by omega
    exact r_ixS (k.exb e ne ha) (List.getElem?_eq_getElem hi) (q i _ H' (List.getElem?_eq_getElem hi) e h')
abbrev s__law_dice : Stmt := top 21
theorem sc__law_dice : FnScope ["script", "spot", "own", "mixed", "cell"] ["script", "spot"] (defScope s__law_dice) := ⟨rfl, rfl, rfl, by decide +kernel, rfl, by decide +kernel, by decide +kernel⟩
def sp_dice (K : PySem.W.Frag) : Sp := fun vs H Q _ => ∃ (a : Addr) (ns : List Int) (spot : Int), vs = [.ref a, .int spot] ∧ SqL K H a (ns.map V.int) ∧ 0 ≤ spot ∧ spot < 1000 ∧ ns.length ≤ 1000 ∧ ∀ p H', Ex H H' → H p = none → Dice 0 H' p → Q (.ref p) H'
theorem ok__law_dice (C : Cx0 K mg base) : Cal P w K mg base 1 "_law_dice" ["script", "spot"] (sp_dice K) := by
  refine C.cal 8 8 rfl rfl sc__law_dice (fun _ _ _ _ _ _ us hl => match us, hl with | [_, _], _ => rfl) (fun vs H Q E h => ?_) (fun f cdv A outer s H vs Q E hr h => ⟨_, PSs.nox
    (pss_cons (ps_set (i := 2) sc__law_dice.nd rfl (Or.inl rfl) (pe_ifExp (pt_cmpR (k_lt (K := K) rfl hr) (pv 1) (pe_bi (k_len (K := K) rfl) (C.free 31) (by decide +kernel) (pa_cons (pv 0) pa_nil)) (nomark _)) (pe_ix (k_ix (K := K) rfl) (pv 0) (pv 1) (fun _ _ => rfl)) (pe_op (k_add (K := K) rfl) (pe_op (k_mul (K := K) rfl) pe_int (pv 1)) pe_int)))
      (pss_cons (ps_set (i := 3) sc__law_dice.nd rfl (Or.inl rfl) (pe_op (k_add (K := K) rfl) pe_int (pe_op (k_mul (K := K) rfl) pe_int (pv 1))))
      (pss_cons (ps_for PassesOwn.never rfl (k_seq (K := K) rfl (pe_op (k_add (K := K) rfl) (pe_slice (k_sl (K := K) rfl) (pv 0) po_none (po_some pe_int)) (pe_lst (pa_cons (pv 2) pa_nil)))) (pg_name (i := 4) sc__law_dice.nd rfl (Or.inl rfl))
      (pss_one (ps_set (i := 3) sc__law_dice.nd rfl (Or.inl rfl) (pe_op op_modN (pe_bt cr_int1 (C.free 27) (by decide +kernel) (pa_cons (pe_op (k_add (K := K) rfl) (pe_op (k_mul (K := K) rfl) (pv 3) pe_int) (pe_op op_modN (pe_bt cr_int1 (C.free 27) (by decide +kernel) (pa_cons (pv 4) pa_nil)) pe_int)) pa_nil)) pe_int))))
      (pss_one (ps_ret (pe_lst (pa_cons (pe_ifExp (PW.pt (pw_or (pt_cmpR (k_lt (K := K) rfl hr) (pv 2) pe_int (nomark _)) (pw_or1 (pt_cmpR (k_ge (K := K) rfl hr) (pv 2) (pe_op op_pow pe_int pe_int) (nomark _))))) (pe_bi cr_abs (C.free 34) (by decide +kernel) (pa_cons (pv 2) pa_nil)) pe_int) (pa_cons (pv 3) (pa_cons pe_int pa_nil))))))))), ?_⟩)
  · obtain ⟨a, ns, spot, rfl, _⟩ := h
    rfl
  · obtain ⟨a, ns, spot, rfl, ha, s0, s1, nl, k⟩ := h
    obtain ⟨sp, rfl⟩ := Int.eq_ofNat_of_zero_le s0
    repeat walk_at "rd"
    refine r_lenLI ha ?_
    repeat walk_at "rd"
    refine r_split (fun own => ?_) (fun c main => ?_) (fun c main => ?_)
    · repeat walk_at "rd"
      refine r_mulI (.inl (by omega)) ?_
      repeat walk_at "rd"
      refine r_slL ha fun p hp => ?_
      repeat walk_at "rd"
      obtain ⟨m, n, ec⟩ := cut_map (ns := ns) none (some 6)
      rw [ec]
      refine ⟨(show 1 ≤ sizeLine by decide), fun q hq => ?_⟩
      have hp1 : upd (upd H p (.lst (((ns.drop m).take n).map V.int))) q (.lst [.int own]) p = some (.lst (((ns.drop m).take n).map V.int)) := at_up hq upd_same
      refine r_catL (xs := ((ns.drop m).take n).map V.int) (ys := [.int own]) hp1 upd_same ?_ fun r hr2 => ?_
      · rw [List.length_map, List.length_take, List.length_drop, List.length_singleton]
        have : 1001 ≤ sizeLine := by decide
        omega
      have er : Ex H (upd (upd (upd H p (.lst (((ns.drop m).take n).map V.int))) q (.lst [.int own])) r (.lst (((ns.drop m).take n).map V.int ++ [.int own]))) := ((Ex.new hp).trans (Ex.new hq)).trans (Ex.new hr2)
      refine f_seq (k := .l) sqL_new (fun i σ H' => ∃ mixed : Int, ∃ x4, σ = [some (.ref a), some (.int (sp : Nat)), some (.int own), some (.int mixed), x4] ∧ 0 ≤ mixed ∧ mixed < 2147480009 ∧ Ex _ H') ⟨_, _, rfl, by omega, by omega, Ex.refl _⟩ (fun i σ H' _ p => sqL_ex p.choose_spec.choose_spec.2.2.2 sqL_new) ?_ ?_
      · rintro i x σ H' hx ⟨mixed, x4, rfl, m0, m1, e⟩
        have hint : ∃ j, x = .int j := by
          have := List.mem_of_getElem? hx
          rw [List.mem_append, List.mem_singleton, List.mem_map] at this
          rcases this with ⟨j, _, rfl⟩ | rfl
          · exact ⟨j, rfl⟩
          · exact ⟨_, rfl⟩
        obtain ⟨j, rfl⟩ := hint
        repeat walk_at "rd"
        refine r_mulI (.inr (by omega)) ?_
        repeat walk_at "rd"
        refine r_modI (by decide) ?_
        repeat walk_at "rd"
        refine r_modI (by decide) ?_
        repeat walk_at "rd"
        exact ⟨_, _, rfl, by rw [Int.fmod_eq_emod_of_nonneg _ (by decide)]; exact Int.emod_nonneg _ (by decide), by rw [Int.fmod_eq_emod_of_nonneg _ (by decide)]; exact Int.emod_lt_of_pos _ (by decide), e⟩
      · rintro σ H' ⟨mixed, x4, rfl, m0, m1, e⟩
        have fin : ∀ x : Int, 0 ≤ x → (3 ≤ sizeLine ∧ ∀ p, H' p = none → Q (.ref p) (upd H' p (.lst [.int x, .int mixed, .int 0]))) := fun x hx => ⟨(show 3 ≤ sizeLine by decide), fun p hp =>
          k p _ ((er.trans e).add hp) ((er.trans e).free hp) ⟨x, mixed, 0, upd_same, hx, m0, m1, by decide, by decide⟩⟩
        repeat walk_at "rd"
        by_cases c : own < 0
        · refine r_T (decide_eq_true c) ?_
          repeat walk_at "rd"
          refine r_abs ?_
          repeat walk_at "rd"
          exact fin _ (by split <;> omega)
        · refine r_F (decide_eq_false c) ?_
          repeat walk_at "rd"
          refine r_powI ⟨by decide, by decide, by decide⟩ ?_
          repeat walk_at "rd"
          refine r_D (fun c2 => ?_) (fun c2 => ?_)
          · repeat walk_at "rd"
            refine r_abs ?_
            repeat walk_at "rd"
            exact fin _ (by split <;> omega)
          · repeat walk_at "rd"
            exact fin 0 (by omega)
    · repeat walk_at "rd"
      have hs : ns[sp]? = some ns[sp] := List.getElem?_eq_getElem (by omega)
      exact r_ixLI ha hs (main ns[sp])
    · repeat walk_at "rd"
      refine r_mulI (.inl (by omega)) (r_addI ?_)
      exact main _

section
variable {T : List (Addr × Str)} {H : Hp} {L F R : List En} {E : XK} {Q : VK}
theorem k_roll {d : Addr} {t : Int} {n : Nat} (w : Wd T H L) (s : Sel (d, isDice n) L F) (hn : n < 1000000000000) (t0 : 0 < t) (t1 : t < 1073741824) (q : ∀ (r : Nat) H', (r : Int) < t → Le H H' → Wd T H' ((d, isDice (n + 1)) :: F) → Q (.int r) H') : sp_roll [.ref d, .int t] H Q E :=
  ⟨d, t, n, rfl, w.dice s, hn, t0, t1, fun r H' r0 r1 e h => by
    obtain ⟨r, rfl⟩ := Int.eq_ofNat_of_zero_le r0
    exact q r H' r1 (Le.eo1 (w.sel s) (EO.b e List.mem_cons_self)) ((w.sel s).eb1 (EB.xb e List.mem_cons_self) (isDice.of h))⟩
theorem k_pickL {d a : Addr} {xs : List V} {n : Nat} (w : Wd T H L) (s : Sel (d, isDice n) L F) (s2 : Sel (a, isL xs) F R) (hn : n < 1000000000000) (l0 : 0 < xs.length) (l1 : xs.length < 1000000) (q : ∀ v H', v ∈ xs → Le H H' → Wd T H' ((d, isDice (n + 1)) :: F) → Q v H') : sp_pick K [.ref d, .ref a] H Q E := by
  have w1 := (w.sel s)
  have ne : a ≠ d := fun z => by
    have w2 := w1.perm (List.Perm.cons _ s2.pm)
    exact w2.ne z.symm
  exact ⟨d, a, .l, xs, n, rfl, w.dice s, hn, ne, (w1.tail).sqL s2, l0, l1, fun i v H' hv e h => q v H' (List.mem_of_getElem? hv) (Le.eo1 w1 (EO.b e List.mem_cons_self)) (w1.eb1 (EB.xb e List.mem_cons_self) (isDice.of h))⟩
end

abbrev s__law_refused : Stmt := top 25
theorem sc__law_refused : FnScope ["call", "e"] ["call"] (defScope s__law_refused) := ⟨rfl, rfl, rfl, by decide +kernel, rfl, by decide +kernel, by decide +kernel⟩
theorem ref_ok (C : Cx0 K mg base) (o : OBad P w K mg base) : RefT K mg "_law_refused" (TTref (cBad0 K) "name" "") := by
  obtain ⟨fd, F⟩ := C.says.def_ 12 (d := dd "_law_refused" 25) rfl
  have kp := F.kp
  have hb : Binds K fd ["call"] [] := FunD.bindsN F (fun _ _ _ _ _ _ us hl => match us, hl with | [_], _ => rfl)
  obtain ⟨oc, od, dV, kV, doc, pm, an, cdv, ct, osl, rfl, lk, hcd, _, _⟩ := F.ex
  exact ⟨_, oc, od, osl, _, _, _, dV, kV, doc, pm, cdv, ct, an, "call", "e", lk, kp, hcd, He.glo_ok C.kin C.glob (C.says.fact 12 (f := .glo "_law_refused") rfl), hb, sc__law_refused, rfl, ⟨by decide, by decide⟩, fun X eK emg q =>
    ref_gives (e := "BadArgument") rfl (by rw [emg]; exact o.1) (by decide) (by rw [eK]; exact o.2.2.2.2.1.1) (by rw [eK]; exact o.2.2.2.2.1.2) (by rw [eK]; exact o.2.2.2.2.2.1) (by decide +kernel) rfl (by decide) (by decide) (fun _ => rfl) (fun _ => rfl)⟩

abbrev s__law_told : Stmt := top 24
theorem sc__law_told : FnScope ["call", "e"] ["call"] (defScope s__law_told) := ⟨rfl, rfl, rfl, by decide +kernel, rfl, by decide +kernel, by decide +kernel⟩
theorem told_ok (C : Cx0 K mg base) (o : ONot P w K mg base) : RefT K mg "_law_told" (TTtold (cNot0 K) "word" "fine" "not") := by
  obtain ⟨fd, F⟩ := C.says.def_ 11 (d := dd "_law_told" 24) rfl
  have kp := F.kp
  have hb : Binds K fd ["call"] [] := FunD.bindsN F (fun _ _ _ _ _ _ us hl => match us, hl with | [_], _ => rfl)
  obtain ⟨oc, od, dV, kV, doc, pm, an, cdv, ct, osl, rfl, lk, hcd, _, _⟩ := F.ex
  exact ⟨_, oc, od, osl, _, _, _, dV, kV, doc, pm, cdv, ct, an, "call", "e", lk, kp, hcd, He.glo_ok C.kin C.glob (C.says.fact 11 (f := .glo "_law_told") rfl), hb, sc__law_told, rfl, ⟨by decide, by decide⟩, fun X eK emg q =>
    told_gives (e := "NotPossible") rfl (by rw [emg]; exact o.1) (by decide) (by rw [eK]; exact o.2.2.2.2.1.1) (by rw [eK]; exact o.2.2.2.2.1.2) (by rw [eK]; exact o.2.2.2.2.2.1) (by decide +kernel) rfl (by decide) (by decide) (fun _ => rfl)⟩

/-- an own work in the row -/
structure HasO (L : List En) (a p q : Addr) (mn : Int) (tg fe : Bool) (mk : Int) (rs : List Int) (us : List V) : Prop where
  s1 : ∃ R, Sel (a, isR (of mn tg fe mk p q)) L R
  s2 : ∃ R, Sel (p, isL (rs.map V.int)) L R
  s3 : ∃ R, Sel (q, isL us) L R
def shownD (mn : Int) (tg fe : Bool) (mk : Int) (rs : List Int) (nw : Int) (ds : List PyData) : PyData := .list [.int mn, .bool tg, .bool fe, .int mk, .tuple (dI rs), .int nw, .tuple ds]
theorem Bnd.shw {mn : Int} {st : WS} (b : Bnd mn st) (tg fe : Bool) {nw : Int} (h0 : -1 ≤ nw) (h1 : nw ≤ 100) : Shw (shownD mn tg fe st.mrk st.rs nw (st.hs.map holdD)) := by
  have i1 := SmA.ints (ns := st.rs) fun n hn => by have := b.rn n hn; omega
  have e := (SmA.cons (Sm.int (i := mn) (by have := b.m0; have := b.m1; omega)) (SmA.cons (Sm.bl tg) (SmA.cons (Sm.bl fe) (SmA.cons (Sm.int (i := st.mrk) (by have := b.k0; have := b.k1; omega)) (SmA.cons (Sm.tup i1) (SmA.cons (Sm.int (i := nw) (by omega)) (SmA.cons (Sm.tup (holds_sm b.ho)) .nil)))))))
  refine (Sm.lst e).shw (by decide) ?_
  have := b.rl
  omega
abbrev s__law_shows : Stmt := top 28
theorem sc__law_shows : FnScope ["work", "own", "told", "due"] ["work", "own"] (defScope s__law_shows) := ⟨rfl, rfl, rfl, by decide +kernel, rfl, by decide +kernel, by decide +kernel⟩
def sp_shows (K : PySem.W.Frag) : Sp := fun vs H Q _ => ∃ (T : List (Addr × Str)) (L : List En) (a p q o p' q' : Addr) (mn : Int) (tg fe : Bool) (st : WS) (us us' : List V), vs = [.ref a, .ref o] ∧ Wd T H L ∧ HasW K L a p q mn tg fe st.mrk st.rs us ∧ HasO L o p' q' mn tg fe st.mrk st.rs us' ∧ PdA H us (st.hs.map holdD) ∧ PdA H us' (st.hs.map holdD) ∧ Bnd mn st ∧ ∀ H', Le H H' → Wd T H' L → Q (.bl true) H'
theorem ok__law_shows (C : Cx0 K mg base) : CalG P w K mg base 3 "_law_shows" ["work", "own"] (sp_shows K) := by
  have p_results := ok_results (P := P) (w := w) C
  have p_newest := ok_newest (P := P) (w := w) C
  have p_holds := ok_holds (P := P) (w := w) C
  obtain ⟨cl, n1, n2, n3, n4, n5, n6⟩ := wat C
  refine C.calG 15 15 rfl rfl sc__law_shows (fun _ _ _ _ _ _ us hl => match us, hl with | [_, _], _ => rfl) (fun vs H Q E h => ?_) (fun f cdv A outer s H vs Q E gd hr h => ⟨_, PSs.nox
    (pss_cons (ps_set (i := 2) sc__law_shows.nd rfl (Or.inl rfl) (pe_lst (pa_cons (k_fld (K := K) rfl (pv 0)) (pa_cons (k_fld (K := K) rfl (pv 0)) (pa_cons (k_fld (K := K) rfl (pv 0)) (pa_cons (k_fld (K := K) rfl (pv 0)) (pa_cons (pe_pr p_results hr (by first | decide | omega) passP (pv 0)) (pa_cons (pe_pr p_newest hr (by first | decide | omega) passP (pv 0)) (pa_cons (pe_pr p_holds hr (by first | decide | omega) passP (pv 0)) pa_nil)))))))))
      (pss_cons (ps_set (i := 3) sc__law_shows.nd rfl (Or.inl rfl) (pe_lst (pa_cons (pe_ix (k_ixB (K := K) rfl hr) (pv 1) pe_str (fun _ _ => rfl)) (pa_cons (pe_ix (k_ixB (K := K) rfl hr) (pv 1) pe_str (fun _ _ => rfl)) (pa_cons (pe_ix (k_ixB (K := K) rfl hr) (pv 1) pe_str (fun _ _ => rfl)) (pa_cons (pe_ix (k_ixB (K := K) rfl hr) (pv 1) pe_str (fun _ _ => rfl)) (pa_cons (pe_bt (k_tuple (K := K) rfl) (C.free 28) (by decide +kernel) (pa_cons (pe_ix (k_ixB (K := K) rfl hr) (pv 1) pe_str (fun _ _ => rfl)) pa_nil)) (pa_cons (pe_op op_sub (pe_bi (k_lenB (K := K) rfl) (C.free 31) (by decide +kernel) (pa_cons (pe_ix (k_ixB (K := K) rfl hr) (pv 1) pe_str (fun _ _ => rfl)) pa_nil)) pe_int) (pa_cons (pe_bt (k_tuple (K := K) rfl) (C.free 28) (by decide +kernel) (pa_cons (pe_ix (k_ixB (K := K) rfl hr) (pv 1) pe_str (fun _ _ => rfl)) pa_nil)) pa_nil)))))))))
      (pss_one (ps_ret (pe_cmpR (k_eq (K := K) rfl hr) (pe_bi (k_repr (K := K) rfl hr gd) (C.free 32) (by decide +kernel) (pa_cons (pv 2) pa_nil)) (pe_bi (k_repr (K := K) rfl hr gd) (C.free 32) (by decide +kernel) (pa_cons (pv 3) pa_nil)) (nomark _)))))), ?_⟩)
  · obtain ⟨T, L, a, p, q, o, p', q', mn, tg, fe, st, us, us', rfl, _⟩ := h
    rfl
  · obtain ⟨T, L, a, p, q, o, p', q', mn, tg, fe, st, us, us', rfl, w0, hw, ⟨⟨R4, s4⟩, ⟨R5, s5⟩, ⟨R6, s6⟩⟩, hu, hu', b, k⟩ := h
    obtain ⟨⟨R1, s1⟩, ⟨R2, s2⟩, ⟨R3, s3⟩⟩ := id hw
    have el : us.length = st.hs.length := by rw [hu.length, List.length_map]
    have el' : us'.length = st.hs.length := by rw [hu'.length, List.length_map]
    repeat walk_at "go"
    refine ⟨T, L, a, p, q, mn, tg, fe, st.mrk, st.rs, us, rfl, w0, hw, fun t H1 l1 w1 h1 => ?_⟩
    repeat walk_at "go"
    refine ⟨T, L, a, p, q, mn, tg, fe, st.mrk, st.rs, us, rfl, w1, hw, ?_⟩
    repeat walk_at "go"
    refine ⟨T, L, a, p, q, mn, tg, fe, st.mrk, st.rs, us, rfl, w1, hw, fun t2 H2 l2 w2 h2 => ?_⟩
    repeat walk_at "go"
    refine n_repr (p := shownD mn tg fe st.mrk st.rs _ (st.hs.map holdD)) (by unfold shownD; walk_at "dp") (b.shw tg fe (nw := (us.length : Int) - 1) (by omega) (by have := b.ho.2.1; omega)) ?_
    repeat walk_at "go"
    refine n_repr (p := shownD mn tg fe st.mrk st.rs _ (st.hs.map holdD)) (by unfold shownD; walk_at "dp") (b.shw tg fe (nw := (us'.length : Int) - 1) (by omega) (by have := b.ho.2.1; omega)) ?_
    rw [el, el']
    repeat walk_at "go"
    rw [decide_eq_true rfl]
    exact k _ (by walk_at "le") (by walk_at "wd")
abbrev s__law_step : Stmt := top 29
theorem sc__law_step : FnScope ["dice", "own", "worker"] ["dice", "own"] (defScope s__law_step) := ⟨rfl, rfl, rfl, by decide +kernel, rfl, by decide +kernel, by decide +kernel⟩
def sp_lstep (K : PySem.W.Frag) : Sp := fun vs H Q _ => ∃ (T : List (Addr × Str)) (L R R' : List En) (d o q : Addr) (n : Nat) (us : List V) (fs : List (Str × V)), vs = [.ref d, .ref o] ∧ Wd T H ((d, isDice n) :: L) ∧ Sel (o, isR fs) L R ∧ fs.lookup ("holds" : Str) = some (V.ref q) ∧ Sel (q, isL us) L R' ∧ n < 1000000 ∧ 1 ≤ us.length ∧ us.length ≤ 12 ∧
  ∀ v s m H', Le H H' → Wd T H' ((d, isDice m) :: L) → m ≤ n + 3 → Pd H' v (stpD s) → OkS s → Q v H'
theorem ok__law_step (C : Cx0 K mg base) : Cal P w K mg base 4 "_law_step" ["dice", "own"] (sp_lstep K) := by
  have c__law_roll := ok__law_roll (P := P) (w := w) C
  have c__law_pick := ok__law_pick (P := P) (w := w) C
  refine C.cal 16 16 rfl rfl sc__law_step (fun _ _ _ _ _ _ us hl => match us, hl with | [_, _], _ => rfl) (fun vs H Q E h => ?_) (fun f cdv A outer s H vs Q E hr h => ⟨_, PSs.nox
    (pss_cons (ps_if (pt_cmpR (k_eq (K := K) rfl hr) (pe_f c__law_roll hr (by first | decide | omega) passL (pa_cons (pv 0) (pa_cons pe_int pa_nil))) pe_int (nomark _)) (pss_one (ps_ret (pe_tup (pa_cons pe_str pa_nil)))) pss_nil)
      (pss_cons (ps_set (i := 2) sc__law_step.nd rfl (Or.inl rfl) (pe_bi (cr_max2 rfl) (C.free 24) (by decide +kernel) (pa_cons pe_int (pa_cons (pe_op op_sub (pe_op op_sub (pe_bi (k_lenB (K := K) rfl) (C.free 31) (by decide +kernel) (pa_cons (pe_ix (k_ixB (K := K) rfl hr) (pv 1) pe_str (fun _ _ => rfl)) pa_nil)) pe_int) (pe_f c__law_pick hr (by first | decide | omega) passL (pa_cons (pv 0) (pa_cons (pe_lst (pa_cons pe_int (pa_cons pe_int (pa_cons pe_int (pa_cons pe_int (pa_cons pe_int (pa_cons pe_int (pa_cons (pe_un un_neg pe_int) pa_nil)))))))) pa_nil)))) pa_nil))))
      (pss_one (ps_ret (pe_tup (pa_cons (pe_f c__law_pick hr (by first | decide | omega) passL (pa_cons (pv 0) (pa_cons (pe_lst (pa_cons pe_str (pa_cons pe_str (pa_cons pe_str (pa_cons pe_str (pa_cons pe_str (pa_cons pe_str (pa_cons pe_str (pa_cons pe_str pa_nil))))))))) pa_nil))) (pa_cons (pe_bi (cr_min2 rfl) (C.free 33) (by decide +kernel) (pa_cons (pv 2) (pa_cons pe_int pa_nil))) pa_nil))))))), ?_⟩)
  · obtain ⟨T, L, R, R', d, o, q, n, us, fs, rfl, _⟩ := h
    rfl
  · obtain ⟨T, L, R, R', d, o, q, n, us, fs, rfl, w0, s1, ef, s2, hn, h1, h12, k⟩ := h
    repeat walk_at "go"
    refine k_roll (by assumption) (by walk_at "sel") (by omega) (by omega) (by omega) fun r H1 hr1 l1 w1 => ?_
    repeat walk_at "go"
    by_cases c : r = 0
    · refine r_T (decide_eq_true (by omega)) ?_
      repeat walk_at "go"
      exact k _ .nxt (n + 1) _ (by walk_at "le") (by walk_at "wd") (by omega) (.tup (by walk_at "tu") (.cons (.str _) .nil)) trivial
    · refine r_F (decide_eq_false (by omega)) ?_
      repeat walk_at "go"
      refine n_rget (by assumption) (by walk_at "sel") ef ?_
      repeat walk_at "go"
      refine k_pickL (by assumption) (by walk_at "sel") (by walk_at "sel") (by omega) (by simp) (by simp) fun v H2 hv l2 w2 => ?_
      obtain ⟨δ, rfl, d1, d2⟩ : ∃ δ : Int, v = .int δ ∧ -1 ≤ δ ∧ δ ≤ 2 := by
        simp only [List.mem_cons, List.not_mem_nil, or_false] at hv
        rcases hv with rfl | rfl | rfl | rfl | rfl | rfl | rfl <;> exact ⟨_, rfl, by decide, by decide⟩
      repeat walk_at "go"
      refine k_pickL (by assumption) (by walk_at "sel") (by walk_at "sel") (by omega) (by simp) (by simp) fun v H3 hv l3 w3 => ?_
      obtain ⟨x, rfl, hx⟩ : ∃ x : Str, v = .str x ∧ x ∈ words := by
        simp only [List.mem_cons, List.not_mem_nil, or_false] at hv
        rcases hv with rfl | rfl | rfl | rfl | rfl | rfl | rfl | rfl <;> exact ⟨_, rfl, by decide +kernel⟩
      repeat walk_at "go"
      obtain ⟨m, em⟩ : ∃ m : Nat, min (max 0 ((us.length : Int) - 1 - δ)) 11 = (m : Int) := ⟨(min (max 0 ((us.length : Int) - 1 - δ)) 11).toNat, by omega⟩
      rename_i tt
      rw [em] at tt
      exact k _ (.on x m) (n + 3) _ (by walk_at "le") (by walk_at "wd") (by omega) (.tup tt (.cons (.str _) (.cons (.int _) .nil))) ⟨hx, by omega⟩
end
end K82

local macro_rules | `(tactic| walk_at "wdD") => `(tactic| ((with_reducible apply Wd.pk); (with_reducible assumption); walk_at "pkD"))
local macro_rules | `(tactic| walk_at "ws") => `(tactic| (with_reducible assumption; walk_at "sel"))
local macro_rules | `(tactic| walk_at "nd") => `(tactic| (refine of_decide_eq_true ?_; with_unfolding_all rfl))
local macro_rules | `(tactic| walk_at "lk") => `(tactic| with_unfolding_all rfl)

namespace K82
section
variable {P : Program} {w : World} {K : PySem.W.Frag} {mg : Str → Option Value} {base : Heap}
/-- whether a course doubles -/
def DblR (mn : Int) (tg fe : Bool) (ds : List PyData) (r : Bool) : Prop := match runD mn tg fe ⟨0, [], [none]⟩ ds with
      | none => r = false
      | some st => ∃ n, Dst st.rs n ∧ r = decide (n < st.rs.length)
theorem DblR.inj {mn : Int} {tg fe : Bool} {ds : List PyData} {r s : Bool} (h : DblR mn tg fe ds r) (k : DblR mn tg fe ds s) : r = s := by
  unfold DblR at h k
  split at h
  · rename_i e
    rw [h]
    split at k
    · exact k.symm
    · rename_i e2
      rw [e] at e2
      cases e2
  · rename_i st e
    split at k
    · rename_i e2
      rw [e] at e2
      cases e2
    · rename_i st2 e2
      rw [e] at e2
      cases e2
      obtain ⟨n, h1, h2⟩ := h
      obtain ⟨m, k1, k2⟩ := k
      rw [h2, k2, h1.inj k1]
theorem nxtB_hs {mn : Int} {tg fe : Bool} {st : WS} {s : Stp} (h : canB mn st s = true) (l : st.hs.length ≤ 12) : (nxtB tg fe st s).hs.length ≤ 12 := by
  cases s with
  | nxt =>
    have h : st.hs.length < 12 := of_decide_eq_true h
    show (st.hs ++ [none]).length ≤ 12
    rw [List.length_append, List.length_singleton]
    omega
  | on x n =>
    have hl : ∀ v, (st.hs.set n v).length ≤ 12 := fun v => by rw [List.length_set]; exact l
    by_cases c1 : x = "take"
    · rw [nxtB_take c1]
      exact hl _
    by_cases c2 : x = "drop"
    · rw [nxtB_drop c1 c2]
      exact hl _
    cases hh : st.hs[n]? with
    | none =>
      rw [canB_off (List.getElem?_eq_none_iff.mp hh)] at h
      cases h
    | some hd =>
      rw [canB_on hh] at h
      unfold canH at h
      rw [if_neg c1, if_neg c2] at h
      match hd, h, hh with
      | some (k, b), h, hh =>
      by_cases c3 : x = "write"
      · rw [nxtB_write c1 c2 hh c3]
        exact hl _
      · rw [nxtB_mark c1 c2 hh c3]
        split
        · exact hl _
        · exact hl _
theorem aft_len {mn : Int} {tg fe : Bool} {st : WS} {s : Stp} : (if canB mn st s then nxtB tg fe st s else st).rs.length ≤ st.rs.length + 1 := by
  split
  · exact nxtB_len
  · exact Nat.le_succ _
abbrev s__law_is_doubled : Stmt := top 30
theorem sc__law_is_doubled : FnScope ["many", "together", "fenced", "steps", "own", "step"] ["many", "together", "fenced", "steps"] (defScope s__law_is_doubled) := ⟨rfl, rfl, rfl, by decide +kernel, rfl, by decide +kernel, by decide +kernel⟩
def sp_lisd (K : PySem.W.Frag) : Sp := fun vs H Q _ => ∃ (T : List (Addr × Str)) (L : List En) (mn : Int) (tg fe : Bool) (t : Addr) (xs : List V) (ss : List Stp), vs = [.int mn, .bl tg, .bl fe, .ref t] ∧ Wd T H L ∧ Tu H t xs ∧ PdA H xs (ss.map stpD) ∧ (∀ s ∈ ss, OkS s) ∧ ss.length ≤ 900 ∧
  ∀ r H', Le H H' → Wd T H' L → DblR mn tg fe (ss.map stpD) r → Q (.bl r) H'
theorem ok__law_is_doubled (C : Cx0 K mg base) : Cal P w K mg base 3 "_law_is_doubled" ["many", "together", "fenced", "steps"] (sp_lisd K) := by
  have c__law_work := ok__law_work (P := P) (w := w) C
  have c__law_work_do := ok__law_work_do (P := P) (w := w) C
  refine C.cal 17 17 rfl rfl sc__law_is_doubled (fun _ _ _ _ _ _ us hl => match us, hl with | [_, _, _, _], _ => rfl) (fun vs H Q E h => ?_) (fun f cdv A outer s H vs Q E hr h => ⟨_, PSs.nox
    (pss_cons (ps_set (i := 4) sc__law_is_doubled.nd rfl (Or.inl rfl) (pe_f c__law_work hr (by first | decide | omega) passL (pa_cons (pv 0) (pa_cons (pv 1) (pa_cons (pv 2) pa_nil)))))
      (pss_cons (ps_for PassesOwn.never rfl (k_seq (K := K) rfl (pv 3)) (pg_name (i := 5) sc__law_is_doubled.nd rfl (Or.inl rfl))
      (pss_one (ps_if (pt_not (k_truth (K := K) rfl (pe_f c__law_work_do hr (by first | decide | omega) passL (pa_cons (pv 4) (pa_cons (pv 5) pa_nil))) (by intro _; rfl))) (pss_one (ps_ret pe_bl)) pss_nil)))
      (pss_one (ps_ret (pe_cmpR (k_lt (K := K) rfl hr) (pe_lenSetB (K := K) rfl rfl rfl (C.free 31) rfl (C.free 35) (pe_ix (k_ixB (K := K) rfl hr) (pv 4) pe_str (fun _ _ => rfl))) (pe_bi (k_lenB (K := K) rfl) (C.free 31) (by decide +kernel) (pa_cons (pe_ix (k_ixB (K := K) rfl hr) (pv 4) pe_str (fun _ _ => rfl)) pa_nil)) (nomark _)))))), ?_⟩)
  · obtain ⟨T, L, mn, tg, fe, t, xs, ss, rfl, _⟩ := h
    rfl
  · obtain ⟨T, L, mn, tg, fe, t, xs, ss, rfl, w0, tu, hd, ok, ln, k⟩ := h
    have el : xs.length = ss.length := by rw [hd.length, List.length_map]
    repeat walk_at "go"
    refine ⟨T, L, mn, tg, fe, rfl, w0, fun a p q H1 l1 w1 => ?_⟩
    repeat walk_at "go"
    refine f_seq (k := .t) (tu.le l1).sq (fun i σ H2 => ∃ p2 q2 us2 st2 x5, σ = [some (.int mn), some (.bl tg), some (.bl fe), some (.ref t), some (.ref a), x5] ∧ Le H H2 ∧ Wd T H2 (fO a p2 q2 mn tg fe st2.mrk st2.rs us2 L) ∧ PdA H2 us2 (st2.hs.map holdD) ∧ runD mn tg fe st2 ((ss.drop i).map stpD) = runD mn tg fe ⟨0, [], [none]⟩ (ss.map stpD) ∧ st2.rs.length ≤ i ∧ st2.hs.length ≤ 12)
      ⟨p, q, [.non], ⟨0, [], [none]⟩, _, rfl, l1, w1, .cons .non .nil, by rw [List.drop_zero], Nat.le_refl _, by decide⟩ (fun i σ H2 _ ⟨_, _, _, _, _, _, l, _⟩ => (tu.le l).sq) ?_ ?_
    · rintro i x σ H2 hx ⟨p2, q2, us2, st2, x5, rfl, l2, w2, hu2, er, ln2, lh⟩
      obtain ⟨d, hdi, hp⟩ := hd.get hx
      rw [List.getElem?_map] at hdi
      obtain ⟨s, hs, rfl⟩ : ∃ s, ss[i]? = some s ∧ stpD s = d := by
        cases e : ss[i]? with
        | none => rw [e] at hdi; cases hdi
        | some s => rw [e] at hdi; exact ⟨s, rfl, Option.some.inj hdi⟩
      have hi : i < ss.length := (List.getElem?_eq_some_iff.mp hs).choose
      have oks := ok s (List.mem_of_getElem? hs)
      rw [List.drop_eq_getElem_cons hi, (List.getElem?_eq_some_iff.mp hs).choose_spec, List.map_cons, runD_cons oks] at er
      repeat walk_at "go"
      refine ⟨T, L, a, p2, q2, mn, tg, fe, st2, us2, x, s, rfl, w2, hu2, hp.le l2, oks, by omega, lh, fun p3 q3 us3 H3 l3 w3 hu3 => ?_⟩
      cases cb : canB mn st2 s with
      | false =>
        rw [cb, if_neg (by decide)] at er w3 hu3
        repeat walk_at "go"
        refine k _ _ (by walk_at "le") (by walk_at "wd") ?_
        unfold DblR
        rw [← er]
      | true =>
        rw [cb, if_pos rfl] at er w3 hu3
        repeat walk_at "go"
        exact ⟨p3, q3, us3, _, _, rfl, by walk_at "le", w3, hu3, er, by have := nxtB_len (tg := tg) (fe := fe) (st := st2) (s := s); omega, nxtB_hs cb lh⟩
    · rintro σ H2 ⟨p2, q2, us2, st2, x5, rfl, l2, w2, hu2, er, ln2, lh⟩
      rw [el, List.drop_length] at er
      repeat walk_at "go"
      refine r_lenSet ?_
      repeat walk_at "go"
      refine ⟨_, st2.rs, rfl, .inl (w2.sqL (.tail .head)), by omega, fun n dst => ?_⟩
      repeat walk_at "go"
      rw [show decide ((n : Int) < ((st2.rs.length : Nat) : Int)) = decide (n < st2.rs.length) by rw [Bool.eq_iff_iff, decide_eq_true_iff, decide_eq_true_iff]; omega]
      refine k _ _ (by walk_at "le") (by walk_at "wd") ?_
      unfold DblR
      rw [← er]
      exact ⟨n, dst, rfl⟩
end
end K82

local macro_rules | `(tactic| walk_at "wdD") => `(tactic| ((with_reducible apply Wd.pk); (with_reducible assumption); walk_at "pkD"))
local macro_rules | `(tactic| walk_at "ws") => `(tactic| (with_reducible assumption; walk_at "sel"))
local macro_rules | `(tactic| walk_at "nd") => `(tactic| (refine of_decide_eq_true ?_; with_unfolding_all rfl))
local macro_rules | `(tactic| walk_at "lk") => `(tactic| with_unfolding_all rfl)

namespace K82
section
variable {P : Program} {w : World} {K : PySem.W.Frag} {mg : Str → Option Value} {base : Heap} {T : List (Addr × Str)} {H : Hp} {L F R : List En} {E : XK} {Q : VK}
theorem runD_step {mn : Int} {tg fe : Bool} {st st' : WS} {s : Stp} {ds : List PyData} (ok : OkS s) (cb : canB mn st s = true) (e : nxtB tg fe st s = st') : runD mn tg fe st (stpD s :: ds) = runD mn tg fe st' ds := by
  rw [runD_cons ok, if_pos cb, e]
theorem pos_dec {mn : Int} (h : 0 < mn) : decide ((0 : Int) < mn) = true := decide_eq_true h
theorem ok_of {x : Str} {n : Nat} (h : decide (x ∈ words) = true) (l : n ≤ 11) : OkS (.on x n) := ⟨of_decide_eq_true h, l⟩
theorem dbl_ok {tg : Bool} : ∀ s ∈ dbl tg, OkS s := by
  cases tg
  · intro s hs
    simp only [dbl, Bool.false_eq_true, if_false, List.mem_cons, List.not_mem_nil, or_false] at hs
    rcases hs with rfl | rfl | rfl | rfl | rfl <;> exact ok_of (by decide +kernel) (by decide)
  · intro s hs
    simp only [dbl, if_true, List.mem_cons, List.not_mem_nil, or_false] at hs
    rcases hs with rfl | rfl | rfl | rfl | rfl | rfl | rfl <;> first | trivial | exact ok_of (by decide +kernel) (by decide)
theorem dbl_run0 {mn : Int} {fe : Bool} (h : 0 < mn) : runD mn false fe ⟨0, [], [none]⟩ ((dbl false).map stpD) = some ⟨0, [0, 0], [some (0, true)]⟩ := by
  refine (runD_step (st' := ⟨0, [], [some (0, false)]⟩) (s := .on "take" 0) (ok_of (by decide +kernel) (by decide)) (by with_unfolding_all exact pos_dec h) (by with_unfolding_all rfl)).trans ?_
  refine (runD_step (st' := ⟨0, [0], [some (0, true)]⟩) (s := .on "write" 0) (ok_of (by decide +kernel) (by decide)) (by with_unfolding_all rfl) (by with_unfolding_all rfl)).trans ?_
  refine (runD_step (st' := ⟨0, [0], [none]⟩) (s := .on "drop" 0) (ok_of (by decide +kernel) (by decide)) (by with_unfolding_all rfl) (by with_unfolding_all rfl)).trans ?_
  refine (runD_step (st' := ⟨0, [0], [some (0, false)]⟩) (s := .on "take" 0) (ok_of (by decide +kernel) (by decide)) (by with_unfolding_all exact pos_dec h) (by with_unfolding_all rfl)).trans ?_
  exact (runD_step (st' := ⟨0, [0, 0], [some (0, true)]⟩) (s := .on "write" 0) (ok_of (by decide +kernel) (by decide)) (by with_unfolding_all rfl) (by with_unfolding_all rfl))
theorem dbl_run1 {mn : Int} (h : 0 < mn) : runD mn true false ⟨0, [], [none]⟩ ((dbl true).map stpD) = some ⟨1, [0, 0], [none, none]⟩ := by
  refine (runD_step (st' := ⟨0, [], [some (0, false)]⟩) (s := .on "take" 0) (ok_of (by decide +kernel) (by decide)) (by with_unfolding_all exact pos_dec h) (by with_unfolding_all rfl)).trans ?_
  refine (runD_step (st' := ⟨0, [], [some (0, true)]⟩) (s := .on "write" 0) (ok_of (by decide +kernel) (by decide)) (by with_unfolding_all rfl) (by with_unfolding_all rfl)).trans ?_
  refine (runD_step (st' := ⟨0, [], [some (0, true), none]⟩) (s := .nxt) trivial (by with_unfolding_all rfl) (by with_unfolding_all rfl)).trans ?_
  refine (runD_step (st' := ⟨0, [], [some (0, true), some (0, false)]⟩) (s := .on "take" 1) (ok_of (by decide +kernel) (by decide)) (by with_unfolding_all exact pos_dec h) (by with_unfolding_all rfl)).trans ?_
  refine (runD_step (st' := ⟨0, [], [some (0, true), some (0, true)]⟩) (s := .on "write" 1) (ok_of (by decide +kernel) (by decide)) (by with_unfolding_all rfl) (by with_unfolding_all rfl)).trans ?_
  refine (runD_step (st' := ⟨1, [0], [some (0, true), none]⟩) (s := .on "mark" 1) (ok_of (by decide +kernel) (by decide)) (by with_unfolding_all rfl) (by with_unfolding_all rfl)).trans ?_
  exact (runD_step (st' := ⟨1, [0, 0], [none, none]⟩) (s := .on "mark" 0) (ok_of (by decide +kernel) (by decide)) (by with_unfolding_all rfl) (by with_unfolding_all rfl))
theorem dst00 : Dst [0, 0] 1 := ⟨[0], by decide, fun x => by simp, rfl⟩
theorem dbl_R {mn : Int} {tg fe : Bool} (h : 0 < mn) (hb : (tg && fe) = false) {r : Bool} (k : DblR mn tg fe ((dbl tg).map stpD) r) : r = true := by
  refine k.inj ?_
  cases tg
  · unfold DblR
    rw [dbl_run0 h]
    exact ⟨1, dst00, rfl⟩
  · cases fe
    · unfold DblR
      rw [dbl_run1 h]
      exact ⟨1, dst00, rfl⟩
    · cases hb
theorem k_dbl {mn : Int} {tg fe : Bool} (w : Wd T H L) (m0 : 0 ≤ mn) (m1 : mn ≤ 100) (k1 : (tg && fe) = true ∨ mn = 0 → ∀ H', Le H H' → Wd T H' L → Q .non H')
    (k2 : (tg && fe) = false → mn ≠ 0 → ∀ b xs H', Le H H' → Wd T H' L → Tu H' b xs → PdA H' xs ((dbl tg).map stpD) → Q (.ref b) H') : sp_dbl K [.int mn, .bl tg, .bl fe] H Q E := by
  refine ⟨T, L, .int mn, .bl tg, .bl fe, "int", "bool", "bool", rfl, w, .int _, .bl _, .bl _, (fun e => ?_), (fun _ e => nomatch e), (fun _ _ e => nomatch e), fun mn' tg' fe' e1 _ _ e2 e3 => ?_⟩
  · rw [inB_yes m0 m1] at e
    cases e
  cases e1
  cases e2
  cases e3
  exact ⟨k1, k2⟩
theorem n_tupS {a : Addr} {xs : List V} (w : Wd T H L) (s : SqL K H a xs) (q : ∀ p H', Le H H' → Wd T H' L → Tu H' p xs → Q (.ref p) H') : rTupA K [V.ref a] H Q := r_tupL s (n_newT (N := fun p H2 => Q (.ref p) H2) w q)
theorem seq4_abs {s1 s2 s3 s4 r : TS} {D : Ends} {σ : St} (Φ : St → Hp → Prop) (rest : ∀ σ H, Φ σ H → r D σ H) (h : ∀ N : St → Hp → Prop, (∀ σ H, Φ σ H → N σ H) → tSeq s1 (tSeq s2 (tSeq s3 s4)) { D with nx := N } σ H) : tSeq s1 (tSeq s2 (tSeq s3 (tSeq s4 r))) D σ H := h _ rest
theorem k_lstep {R2 : List En} {d o p q : Addr} {mn mk : Int} {tg fe : Bool} {n : Nat} {us : List V} (w : Wd T H L) (s : Sel (d, isDice n) L F) (s1 : Sel (o, isR (of mn tg fe mk p q)) F R) (s2 : Sel (q, isL us) F R2) (hn : n < 1000000) (h1 : 1 ≤ us.length) (h2 : us.length ≤ 12)
    (k : ∀ v s m H', Le H H' → Wd T H' ((d, isDice m) :: F) → m ≤ n + 3 → Pd H' v (stpD s) → OkS s → Q v H') : sp_lstep K [.ref d, .ref o] H Q E :=
  ⟨T, F, R, R2, d, o, q, n, us, _, rfl, w.sel s, s1, by with_unfolding_all rfl, s2, hn, h1, h2, k⟩
theorem cut_1 {xs : List V} {i : Nat} : cutV xs (some ((i : Int) + 1)) none = xs.drop (i + 1) := cut_hi (i := i + 1)
theorem stpD_shp {s : Stp} (h : OkS s) : SeqAt.shaped (stpD s) = true := by
  cases s with
  | nxt => decide +kernel
  | on x n =>
    have hx : Sm 0 300 (.str x) := by
      have := h.1
      simp only [words, List.mem_cons, List.not_mem_nil, or_false] at this
      rcases this with rfl | rfl | rfl | rfl <;> exact Sm.str (by decide +kernel) (by decide +kernel)
    exact (Sm.tup (SmA.cons hx (SmA.cons (Sm.int (i := n) (by have := h.2; omega)) .nil))).shaped (by decide)
theorem stp_shps {ss : List Stp} (h : ∀ s ∈ ss, OkS s) : ∀ d ∈ ss.map stpD, SeqAt.shaped d = true := fun d hd => by
  obtain ⟨s, hs, rfl⟩ := List.mem_map.mp hd
  exact stpD_shp (h s hs)
theorem k_isdbl {t : Addr} {xs : List V} {ds : List PyData} {mn : Int} {tg fe : Bool} (w : Wd T H L) (m0 : 0 ≤ mn) (m1 : mn ≤ 100) (tu : Tu H t xs) (hd : PdA H xs ds) (sh : ∀ d ∈ ds, SeqAt.shaped d = true) (ln : ds.length ≤ 900) (k : ∀ r H', Le H H' → Wd T H' L → DblR mn tg fe ds r → Q (.bl r) H') : sp_isdbl K [.int mn, .bl tg, .bl fe, .ref t] H Q E := by
  refine ⟨T, L, .int mn, .bl tg, .bl fe, .ref t, "int", "bool", "bool", "tuple", rfl, w, .int _, .bl _, .bl _, (fun H' l _ => .sqT (tu.le l).sq), (fun e => ?_), (fun _ e => nomatch e), (fun _ _ e => nomatch e), fun mn' tg' fe' e1 _ _ e2 e3 => ?_⟩
  · rw [inB_yes m0 m1] at e
    cases e
  cases e1
  cases e2
  cases e3
  exact ⟨fun e => (nomatch e), fun _ => ⟨t, xs, ds, rfl, tu, hd, sh, ln, fun H' l1 w1 r hr => k r H' l1 w1 hr⟩⟩
theorem k_isdblN {v : V} {Ty : String} {mn : Int} {tg fe : Bool} (w : Wd T H L) (m0 : 0 ≤ mn) (m1 : mn ≤ 100) (ty : ∀ H', Le H H' → Wd T H' L → IsTy K H' v Ty) (nt : isT Ty "tuple" = false) (k : ∀ H', Le H H' → Wd T H' L → Q (.bl false) H') : sp_isdbl K [.int mn, .bl tg, .bl fe, v] H Q E := by
  refine ⟨T, L, .int mn, .bl tg, .bl fe, v, "int", "bool", "bool", Ty, rfl, w, .int _, .bl _, .bl _, ty, (fun e => ?_), (fun _ e => nomatch e), (fun _ _ e => nomatch e), fun mn' tg' fe' e1 _ _ e2 e3 => ?_⟩
  · rw [inB_yes m0 m1] at e
    cases e
  cases e1
  cases e2
  cases e3
  exact ⟨fun _ => k, fun e => by rw [nt] at e; cases e⟩
theorem n_catT {a b : Addr} {xs ys : List V} (w : Wd T H L) (s : Tu H a xs) (t : Tu H b ys) (n : xs.length + ys.length ≤ sizeLine) (q : ∀ p H', Le H H' → Wd T H' L → Tu H' p (xs ++ ys) → Q (.ref p) H') : rAddA K (.ref a) (.ref b) H Q := .inr (.inr (.inl ⟨a, b, xs, ys, rfl, rfl, s.sq, t.sq, n, (fun e => by subst e; exact q b H (Le.refl H) w t), (fun _ e => by subst e; rw [List.append_nil] at q; exact q a H (Le.refl H) w s), (fun _ _ => n_newT (N := fun p H2 => Q (.ref p) H2) w q)⟩))
theorem runD_bad {mn : Int} {tg fe : Bool} {d : PyData} (h : stepB d = false) : ∀ {ds : List PyData} {st : WS}, runD mn tg fe st (ds ++ [d]) = none
  | [], st => runD_no h
  | e :: ds, st => by
    show (match stpOf e with | none => none | some s => if canB mn st s = true then runD mn tg fe (nxtB tg fe st s) (ds ++ [d]) else none) = none
    cases stpOf e with
    | none => rfl
    | some s =>
      show (if canB mn st s = true then runD mn tg fe (nxtB tg fe st s) (ds ++ [d]) else none) = none
      rw [runD_bad h]
      split <;> rfl
theorem dbl_bad {mn : Int} {tg fe : Bool} {d : PyData} {ds : List PyData} {r : Bool} (h : stepB d = false) (k : DblR mn tg fe (ds ++ [d]) r) : r = false := by
  unfold DblR at k
  rw [runD_bad h] at k
  exact k
abbrev s__law_courses_right : Stmt := top 31
theorem sc__law_courses_right : FnScope ["dice", "many", "together", "fenced", "course", "own", "is_due", "steps", "turn", "at", "near", "odd"] ["dice", "many", "together", "fenced"] (defScope s__law_courses_right) := ⟨rfl, rfl, rfl, by decide +kernel, rfl, by decide +kernel, by decide +kernel⟩
def sp_courses (K : PySem.W.Frag) : Sp := fun vs H Q _ => ∃ (T : List (Addr × Str)) (L : List En) (d : Addr) (n : Nat) (mn : Int) (tg fe : Bool), vs = [.ref d, .int mn, .bl tg, .bl fe] ∧ Wd T H ((d, isDice n) :: L) ∧ n ≤ 100000 ∧ 0 ≤ mn ∧ mn ≤ 100 ∧ ∀ m H', Le H H' → Wd T H' ((d, isDice m) :: L) → Q (.bl true) H'
theorem ok__law_courses_right (C : Cx0 K mg base) (wd : He.tupB K "WORDS" [.str "take", .str "write", .str "mark", .str "drop"] = true) (o_BadArgument : OBad P w K mg base) (o_NotPossible : ONot P w K mg base) (xN : PySem.W.exmOne K (.ref (cNot0 K)) (.ref (cBad0 K)) = some false) : Cal P w K mg base 12 "_law_courses_right" ["dice", "many", "together", "fenced"] (sp_courses K) := by
  have c__law_roll := ok__law_roll (P := P) (w := w) C
  have c__law_pick := ok__law_pick (P := P) (w := w) C
  have c__law_work := ok__law_work (P := P) (w := w) C
  have c__law_step := ok__law_step (P := P) (w := w) C
  have c__law_is_doubled := ok__law_is_doubled (P := P) (w := w) C
  have ck_doubled_work := (ok_dbl (P := P) (w := w) C o_BadArgument).2
  have c_is_doubled_work := (ok_isdbl (P := P) (w := w) C wd o_BadArgument o_NotPossible xN).1
  have cn_is_doubled_work := (ok_isdbl (P := P) (w := w) C wd o_BadArgument o_NotPossible xN).2
  refine C.cal 18 18 rfl rfl sc__law_courses_right (fun _ _ _ _ _ _ us hl => match us, hl with | [_, _, _, _], _ => rfl) (fun vs H Q E h => ?_) (fun f cdv A outer s H vs Q E hr h => ⟨_, PSs.nox
    (pss_cons (ps_par (i := 4) (j := 5) rfl sc__law_courses_right.nd rfl rfl (by decide) rfl rfl (pa_cons (pe_kw0 ck_doubled_work hr (by decide) passL (pk_cons (pv 3) (pk_cons (pv 2) (pk_cons (pv 1) pk_nil)))) (pa_cons (pe_f c__law_work hr (by first | decide | omega) passL (pa_cons (pv 1) (pa_cons (pv 2) (pa_cons (pv 3) pa_nil)))) pa_nil)) (by rfl))
      (pss_cons (ps_set (i := 6) sc__law_courses_right.nd rfl (Or.inl rfl) (pe_and (pe_cmpR (k_gt (K := K) rfl hr) (pv 1) pe_int (nomark _)) (pe_one (pe_not (pe_and (pv 2) (pe_one (pv 3)))))))
      (pss_cons (ps_if (PW.pt (pw_or (pt_cmpR (k_ne (K := K) rfl hr) (pe_cmpR op_notN (pv 4) pe_non (nomark _)) (pv 6) (nomark _)) (pw_or1 (PW.pt (pw_and (k_truth (K := K) rfl (pv 6) (by intro _; rfl)) (pw_and1 (pt_not (k_truth (K := K) rfl (pe_f c__law_is_doubled hr (by first | decide | omega) passL (pa_cons (pv 1) (pa_cons (pv 2) (pa_cons (pv 3) (pa_cons (pv 4) pa_nil))))) (by intro _; rfl))))))))) (pss_one (ps_ret pe_bl)) pss_nil)
      (pss_cons (ps_set (i := 7) sc__law_courses_right.nd rfl (Or.inl rfl) (pe_ifExp (pt_cmpR op_notN (pv 4) pe_non (nomark _)) (pe_bt (k_list (K := K) rfl) (C.free 29) (by decide +kernel) (pa_cons (pv 4) pa_nil)) (pe_lst (pa_cons (pe_tup (pa_cons pe_str (pa_cons pe_int pa_nil))) (pa_cons (pe_tup (pa_cons pe_str (pa_cons pe_int pa_nil))) (pa_cons (pe_tup (pa_cons pe_str (pa_cons pe_int pa_nil))) pa_nil))))))
      (pss_cons (ps_for PassesOwn.never rfl (pi_range1 rfl (C.free 25) (pa_cons pe_int pa_nil)) (pg_name (i := 8) sc__law_courses_right.nd rfl (Or.inl rfl))
      (pss_cons (ps_set (i := 9) sc__law_courses_right.nd rfl (Or.inl rfl) (pe_f c__law_roll hr (by first | decide | omega) passL (pa_cons (pv 0) (pa_cons (pe_op (k_add (K := K) rfl) (pe_bi (k_lenB (K := K) rfl) (C.free 31) (by decide +kernel) (pa_cons (pv 7) pa_nil)) pe_int) pa_nil))))
      (pss_cons (ps_set (i := 10) sc__law_courses_right.nd rfl (Or.inl rfl) (pe_bt (k_tuple (K := K) rfl) (C.free 28) (by decide +kernel) (pa_cons (pe_f c__law_pick hr (by first | decide | omega) passL (pa_cons (pv 0) (pa_cons (pe_lst (pa_cons (pe_op (k_add (K := K) rfl) (pe_slice (k_sl (K := K) rfl) (pv 7) po_none (po_some (pv 9))) (pe_slice (k_sl (K := K) rfl) (pv 7) (po_some (pe_op (k_add (K := K) rfl) (pv 9) pe_int)) po_none)) (pa_cons (pe_op (k_add (K := K) rfl) (pe_op (k_add (K := K) rfl) (pe_slice (k_sl (K := K) rfl) (pv 7) po_none (po_some (pv 9))) (pe_lst (pa_cons (pe_f c__law_step hr (by first | decide | omega) passL (pa_cons (pv 0) (pa_cons (pv 5) pa_nil))) pa_nil))) (pe_slice (k_sl (K := K) rfl) (pv 7) (po_some (pv 9)) po_none)) (pa_cons (pe_slice (k_sl (K := K) rfl) (pv 7) po_none (po_some (pv 9))) (pa_cons (pe_op (k_add (K := K) rfl) (pv 7) (pv 7)) pa_nil))))) pa_nil))) pa_nil)))
      (pss_one (ps_if (pt_cmpR (k_ne (K := K) rfl hr) (pe_f c_is_doubled_work hr (by first | decide | omega) passL (pa_cons (pv 1) (pa_cons (pv 2) (pa_cons (pv 3) (pa_cons (pv 10) pa_nil))))) (pe_f c__law_is_doubled hr (by first | decide | omega) passL (pa_cons (pv 1) (pa_cons (pv 2) (pa_cons (pv 3) (pa_cons (pv 10) pa_nil))))) (nomark _)) (pss_one (ps_ret pe_bl)) pss_nil)))))
      (pss_cons (ps_set (i := 11) sc__law_courses_right.nd rfl (Or.inl rfl) (pe_f c__law_pick hr (by first | decide | omega) passL (pa_cons (pv 0) (pa_cons (pe_lst (pa_cons pe_non (pa_cons (pv 7) (pa_cons (pe_op (k_add (K := K) rfl) (pe_bt (k_tuple (K := K) rfl) (C.free 28) (by decide +kernel) (pa_cons (pv 7) pa_nil)) (pe_tup (pa_cons pe_non pa_nil))) (pa_cons (pe_op (k_add (K := K) rfl) (pe_bt (k_tuple (K := K) rfl) (C.free 28) (by decide +kernel) (pa_cons (pv 7) pa_nil)) (pe_tup (pa_cons (pe_tup (pa_cons pe_str (pa_cons pe_int pa_nil))) pa_nil))) (pa_cons pe_str (pa_cons pe_dnewK pa_nil))))))) pa_nil))))
      (pss_one (ps_ret (pe_cmpR op_isBl (pe_fN cn_is_doubled_work hr (by first | decide | omega) passL (pa_cons (pv 1) (pa_cons (pv 2) (pa_cons (pv 3) pa_nil))) (pk_cons (pv 11) pk_nil)) pe_bl (nomark _)))))))))), ?_⟩)
  · obtain ⟨T, L, d, n, mn, tg, fe, rfl, _⟩ := h
    rfl
  · obtain ⟨T, L, d, n, mn, tg, fe, rfl, w0, hn, m0, m1, k⟩ := h
    refine seq4_abs (fun σ H5 => ∃ (v4 v6 : Option V) (a p q p7 : Addr) (xs : List V) (ss : List Stp), σ = [some (.ref d), some (.int mn), some (.bl tg), some (.bl fe), v4, some (.ref a), v6, some (.ref p7), none, none, none, none] ∧ Le H H5 ∧ Wd T H5 ((p7, isL xs) :: (d, isDice n) :: fO a p q mn tg fe 0 [] [.non] L) ∧ PdA H5 xs (ss.map stpD) ∧ (∀ s ∈ ss, OkS s) ∧ ss.length ≤ 7) ?_ fun N hN => ?_
    · rintro σ H5 ⟨v4, v6, a, p, q, p7, xs, ss, rfl, l5, w5, hd5, ok, ln⟩
      have el : xs.length = ss.length := by rw [hd5.length, List.length_map]
      repeat walk_at "go"
      refine n_1 (by omega) ?_
      refine f_rng (fun i σ H6 => ∃ (v8 v9 v10 : Option V) (m : Nat), σ = [some (.ref d), some (.int mn), some (.bl tg), some (.bl fe), v4, some (.ref a), v6, some (.ref p7), v8, v9, v10, none] ∧ Le H H6 ∧ Le H5 H6 ∧ Wd T H6 ((d, isDice m) :: (p7, isL xs) :: fO a p q mn tg fe 0 [] [.non] L) ∧ m ≤ n + 10 * i) ⟨_, _, _, n, rfl, l5, Le.refl _, by walk_at "wd", by omega⟩ ?_ ?_
      · rintro i σ H6 hi ⟨v8, v9, v10, m, rfl, l6, l56, w6, hm⟩
        have hi : i < 5 := hi
        rw [Int.zero_add]
        repeat walk_at "go"
        refine k_roll (by assumption) (by walk_at "sel") (by omega) (by omega) (by omega) fun at_ H7 hat l7 w7 => ?_
        repeat walk_at "go"
        have c1 : (cutV xs none (some (at_ : Int))).length ≤ 7 := by rw [cut_lo, List.length_take]; omega
        have c2 : (cutV xs (some ((at_ : Int) + 1)) none).length ≤ 7 := by rw [cut_1, List.length_drop]; omega
        have c3 : (cutV xs (some (at_ : Int)) none).length ≤ 7 := by rw [cut_hi, List.length_drop]; omega
        refine n_catL (by assumption) (by walk_at "sel") (by walk_at "sel") (Nat.le_trans (m := 100) (by omega) (by decide)) fun g1 H8 l8 w8 => ?_
        repeat walk_at "go"
        refine k_lstep (by assumption) (by walk_at "sel") (by walk_at "sel") (by walk_at "sel") (by omega) (by decide) (by decide) fun v0 s0 m2 H9 l9 w9 hm2 hv0 ok0 => ?_
        repeat walk_at "go"
        refine n_catL (by assumption) (by walk_at "sel") (by walk_at "sel") (Nat.le_trans (m := 100) (by simp only [List.length_cons, List.length_nil]; omega) (by decide)) fun g2 H10 l10 w10 => ?_
        repeat walk_at "go"
        refine n_catL (by assumption) (by walk_at "sel") (by walk_at "sel") (Nat.le_trans (m := 100) (by simp only [List.length_append, List.length_cons, List.length_nil]; omega) (by decide)) fun g3 H11 l11 w11 => ?_
        repeat walk_at "go"
        refine n_catL (by assumption) (by walk_at "sel") (by walk_at "sel") (Nat.le_trans (m := 100) (by omega) (by decide)) fun g4 H12 l12 w12 => ?_
        repeat walk_at "go"
        refine k_pickL (by assumption) (by walk_at "sel") (by walk_at "sel") (by omega) (by simp) (by simp) fun nv H13 hnv l13 w13 => ?_
        have hD : ∀ {H'}, Le H5 H' → PdA H' xs (ss.map stpD) := fun l => hd5.le l
        obtain ⟨nr, ys, tt, rfl, hsq, hpd, okt, lnt⟩ : ∃ (nr : Addr) (ys : List V) (tt : List Stp), nv = .ref nr ∧ SqL K H13 nr ys ∧ PdA H13 ys (tt.map stpD) ∧ (∀ s ∈ tt, OkS s) ∧ tt.length ≤ 100 := by
          have hv13 : Pd H13 v0 (stpD s0) := hv0.le (by walk_at "le")
          have l513 : Le H5 H13 := by walk_at "le"
          have hd13 := hd5.le l513
          simp only [List.mem_cons, List.not_mem_nil, or_false] at hnv
          rcases hnv with rfl | rfl | rfl | rfl
          · refine ⟨_, _, ss.take at_ ++ ss.drop (at_ + 1), rfl, w13.sqL (by walk_at "sel"), ?_, fun s hs => ?_, ?_⟩
            · rw [cut_lo, cut_1, List.map_append, List.map_take, List.map_drop]
              exact (hd13.take _).append (hd13.drop _)
            · rcases List.mem_append.mp hs with hs | hs
              · exact ok s (List.mem_of_mem_take hs)
              · exact ok s (List.mem_of_mem_drop hs)
            · rw [List.length_append, List.length_take, List.length_drop]; omega
          · refine ⟨_, _, ss.take at_ ++ [s0] ++ ss.drop at_, rfl, w13.sqL (by walk_at "sel"), ?_, fun s hs => ?_, ?_⟩
            · rw [cut_lo, cut_hi, List.map_append, List.map_append, List.map_take, List.map_drop]
              exact ((hd13.take _).append (.cons hv13 .nil)).append (hd13.drop _)
            · rcases List.mem_append.mp hs with hs | hs
              · rcases List.mem_append.mp hs with hs | hs
                · exact ok s (List.mem_of_mem_take hs)
                · rw [List.mem_singleton.mp hs]
                  exact ok0
              · exact ok s (List.mem_of_mem_drop hs)
            · rw [List.length_append, List.length_append, List.length_take, List.length_drop, List.length_singleton]; omega
          · refine ⟨_, _, ss.take at_, rfl, w13.sqL (by walk_at "sel"), ?_, fun s hs => ok s (List.mem_of_mem_take hs), ?_⟩
            · rw [cut_lo, List.map_take]
              exact hd13.take _
            · rw [List.length_take]; omega
          · refine ⟨_, _, ss ++ ss, rfl, w13.sqL (by walk_at "sel"), ?_, fun s hs => ?_, ?_⟩
            · rw [List.map_append]
              exact hd13.append hd13
            · rcases List.mem_append.mp hs with hs | hs
              · exact ok s hs
              · exact ok s hs
            · rw [List.length_append]; omega
        repeat walk_at "go"
        refine n_tupS (by assumption) hsq fun tn H14 l14 w14 t14 => ?_
        repeat walk_at "go"
        have hp14 := hpd.le l14
        refine k_isdbl w14 m0 m1 t14 hp14 (stp_shps okt) (by rw [List.length_map]; omega) fun r1 H15 l15 w15 hr1 => ?_
        repeat walk_at "go"
        refine ⟨T, _, mn, tg, fe, tn, ys, tt, rfl, w15, t14.le l15, hp14.le l15, okt, by omega, fun r2 H16 l16 w16 hr2 => ?_⟩
        obtain rfl := hr1.inj hr2
        repeat walk_at "go"
        refine n_neB ?_
        rw [decide_eq_true (show r1 = r1 from rfl)]
        repeat walk_at "go"
        exact ⟨_, _, _, _, rfl, by walk_at "le", by walk_at "le", by walk_at "wd", by omega⟩
      · rintro σ H6 ⟨v8, v9, v10, m, rfl, l6, l56, w6, hm⟩
        repeat walk_at "go"
        refine n_catT (by assumption) (by walk_at "tu") (by walk_at "tu") (Nat.le_trans (m := 100) (by simp only [List.length_cons, List.length_nil]; omega) (by decide)) fun t1 H7 l7 w7 tu7 => ?_
        repeat walk_at "go"
        refine n_catT (by assumption) (by walk_at "tu") (by walk_at "tu") (Nat.le_trans (m := 100) (by simp only [List.length_cons, List.length_nil]; omega) (by decide)) fun t2 H8 l8 w8 tu8 => ?_
        repeat walk_at "go"
        refine k_pickL (by assumption) (by walk_at "sel") (by walk_at "sel") (by omega) (by simp) (by simp) fun ov H9 hov l9 w9 => ?_
        repeat walk_at "go"
        have d58 := hd5.le l56
        have bad0 : stepB .none = false := by decide +kernel
        have bad1 : stepB (.tuple [.str "take", .int 12]) = false := by decide +kernel
        have dup : PdA H9 xs (ss.map stpD) := d58.le (by walk_at "le")
        simp only [List.mem_cons, List.not_mem_nil, or_false] at hov
        rcases hov with rfl | rfl | rfl | rfl | rfl | rfl
        · refine k_isdblN w9 m0 m1 (fun _ _ _ => .non) rfl fun H10 l10 w10 => ?_
          exact ⟨_, _, rfl, rfl, k _ _ (by walk_at "le") (by walk_at "wd")⟩
        · refine k_isdblN w9 m0 m1 (fun H' _ w => IsTy.sqL (w.sqL (by walk_at "sel"))) rfl fun H10 l10 w10 => ?_
          exact ⟨_, _, rfl, rfl, k _ _ (by walk_at "le") (by walk_at "wd")⟩
        · refine k_isdbl w9 m0 m1 (tu7.le (by walk_at "le")) (dup.append (.cons .non .nil)) (fun d hd => ?_) (by rw [List.length_append, List.length_map, List.length_singleton]; omega) fun r H10 l10 w10 hr => ?_
          · rcases List.mem_append.mp hd with hd | hd
            · exact stp_shps ok d hd
            · rw [List.mem_singleton.mp hd]
              decide +kernel
          · obtain rfl := dbl_bad bad0 hr
            exact ⟨_, _, rfl, rfl, k _ _ (by walk_at "le") (by walk_at "wd")⟩
        · refine k_isdbl w9 m0 m1 (tu8.le (by walk_at "le")) (dup.append (.cons (.tup (by walk_at "tu") (.cons (.str _) (.cons (.int 12) .nil))) .nil)) (fun d hd => ?_) (by rw [List.length_append, List.length_map, List.length_singleton]; omega) fun r H10 l10 w10 hr => ?_
          · rcases List.mem_append.mp hd with hd | hd
            · exact stp_shps ok d hd
            · rw [List.mem_singleton.mp hd]
              decide +kernel
          · obtain rfl := dbl_bad bad1 hr
            exact ⟨_, _, rfl, rfl, k _ _ (by walk_at "le") (by walk_at "wd")⟩
        · refine k_isdblN w9 m0 m1 (fun _ _ _ => .str _) rfl fun H10 l10 w10 => ?_
          exact ⟨_, _, rfl, rfl, k _ _ (by walk_at "le") (by walk_at "wd")⟩
        · refine k_isdblN w9 m0 m1 (fun H' _ w => IsTy.dK (w.dic (by walk_at "sel"))) rfl fun H10 l10 w10 => ?_
          exact ⟨_, _, rfl, rfl, k _ _ (by walk_at "le") (by walk_at "wd")⟩
    · repeat walk_at "go"
      refine k_dbl w0 m0 m1 (fun hc H1 l1 w1 => ?_) (fun hc hc2 b xs H1 l1 w1 t1 d1 => ?_)
      · repeat walk_at "go"
        refine ⟨T, _, mn, tg, fe, rfl, w1, fun a p q H2 l2 w2 => ?_⟩
        repeat walk_at "go"
        have fin : ∀ {v4 v6 : Option V} {p7 H5 xs}, Le H2 H5 → Wd T H5 ((p7, isL xs) :: (a, isR (of mn tg fe 0 p q)) :: (p, isL ([].map V.int)) :: (q, isL [.non]) :: (d, isDice n) :: L) → PdA H5 xs [.tuple [.str "take", .int 0], .tuple [.str "write", .int 0], .tuple [.str "mark", .int 0]] →
          N [some (.ref d), some (.int mn), some (.bl tg), some (.bl fe), v4, some (.ref a), v6, some (.ref p7), none, none, none, none] H5 := fun {v4 v6 p7 H5 xs} l5 w5 d5 => hN _ _ ⟨v4, v6, a, p, q, p7, xs, [.on "take" 0, .on "write" 0, .on "mark" 0], rfl, (l1.trans l2).trans l5, by walk_at "wd", d5, (fun s hs => by
            simp only [List.mem_cons, List.not_mem_nil, or_false] at hs
            rcases hs with rfl | rfl | rfl <;> exact ok_of (by decide +kernel) (by decide)), by decide⟩
        by_cases c : 0 < mn
        · obtain ⟨rfl, rfl⟩ : tg = true ∧ fe = true := by
            rcases hc with hc | hc
            · exact Bool.and_eq_true_iff.mp hc
            · omega
          refine r_T (decide_eq_true c) ?_
          repeat walk_at "go"
          refine ⟨rfl, ?_⟩
          repeat walk_at "go"
          refine n_neB ?_
          refine ⟨_, rfl, r_F (by rw [decide_eq_true (show V.non = V.non from rfl)]; rfl) ?_⟩
          repeat walk_at "go"
          refine ⟨rfl, _, rfl, r_F (by rw [decide_eq_true (show V.non = V.non from rfl)]; rfl) ?_⟩
          repeat walk_at "go"
          exact fin (by walk_at "le") (by walk_at "wdD") (by walk_at "pda")
        · refine r_F (decide_eq_false c) ?_
          repeat walk_at "go"
          refine ⟨rfl, ?_⟩
          repeat walk_at "go"
          refine n_neB ?_
          refine ⟨_, rfl, r_F (by rw [decide_eq_true (show V.non = V.non from rfl)]; rfl) ?_⟩
          repeat walk_at "go"
          refine ⟨rfl, _, rfl, r_F (by rw [decide_eq_true (show V.non = V.non from rfl)]; rfl) ?_⟩
          repeat walk_at "go"
          exact fin (by walk_at "le") (by walk_at "wdD") (by walk_at "pda")
      · repeat walk_at "go"
        refine ⟨T, _, mn, tg, fe, rfl, w1, fun a p q H2 l2 w2 => ?_⟩
        repeat walk_at "go"
        refine r_T (decide_eq_true (by omega)) ?_
        repeat walk_at "go"
        have fin : ∀ {v4 v6 : Option V} {p7 H5}, Le H2 H5 → Wd T H5 ((p7, isL xs) :: (a, isR (of mn tg fe 0 p q)) :: (p, isL ([].map V.int)) :: (q, isL [.non]) :: (d, isDice n) :: L) →
          N [some (.ref d), some (.int mn), some (.bl tg), some (.bl fe), v4, some (.ref a), v6, some (.ref p7), none, none, none, none] H5 := fun {v4 v6 p7 H5} l5 w5 => hN _ _ ⟨v4, v6, a, p, q, p7, xs, dbl tg, rfl, (l1.trans l2).trans l5, by walk_at "wd", d1.le (l2.trans l5), dbl_ok, by cases tg <;> decide⟩
        have due : ∀ {v4 : Option V} {Q' : VK}, Q' (.bl true) H2 → Q' (.bl (!(tg && fe))) H2 := fun {v4 Q'} h => by rw [hc]; exact h
        have ldbl : (dbl tg).length ≤ 900 := by cases tg <;> decide
        cases tg
        all_goals (try cases fe)
        all_goals (try cases hc)
        all_goals (
          repeat walk_at "go"
          refine ⟨rfl, ?_⟩
          repeat walk_at "go"
          refine n_neB ?_
          refine ⟨_, rfl, r_F (by rw [decide_eq_false (p := V.ref b = V.non) (fun z => nomatch z)]; rfl) ?_⟩
          repeat walk_at "go"
          refine ⟨T, _, mn, _, _, b, xs, dbl _, rfl, by assumption, t1.le l2, d1.le l2, dbl_ok, ldbl, fun r H3 l3 w3 hr3 => ?_⟩
          obtain rfl := dbl_R (by omega) rfl hr3
          repeat walk_at "go"
          refine ⟨rfl, _, rfl, r_T (by rw [decide_eq_false (fun z => nomatch z)]; rfl) ?_⟩
          repeat walk_at "go"
          exact fin (by walk_at "le") (by walk_at "wdD"))
end
end K82

local macro_rules | `(tactic| walk_at "wdD") => `(tactic| ((with_reducible apply Wd.pk); (with_reducible assumption); walk_at "pkD"))
local macro_rules | `(tactic| walk_at "ws") => `(tactic| (with_reducible assumption; walk_at "sel"))
local macro_rules | `(tactic| walk_at "nd") => `(tactic| (refine of_decide_eq_true ?_; with_unfolding_all rfl))
local macro_rules | `(tactic| walk_at "lk") => `(tactic| with_unfolding_all rfl)

namespace K82
section
variable {P : Program} {w : World} {K : PySem.W.Frag} {mg : Str → Option Value} {base : Heap} {T : List (Addr × Str)} {H : Hp} {L F R : List En} {E : XK} {Q : VK}
theorem k_twin {a p q : Addr} {mn : Int} {tg fe : Bool} {mk : Int} {rs : List Int} {us : List V} (w : Wd T H L) (hw : HasW K L a p q mn tg fe mk rs us) (m0 : 0 ≤ mn) (m1 : mn ≤ 100) (k : ∀ b p' q' H', Le H H' → Wd T H' (fW K b p' q' mn tg fe mk rs us L) → Q (.ref b) H') : sp_twin K [.ref a] H Q E :=
  ⟨T, L, a, p, q, mn, tg, fe, mk, rs, us, rfl, w, hw, m0, m1, k⟩
theorem k_own {neg : Bool} {a p q b p' q' : Addr} {mn mn' : Int} {tg fe tg' fe' : Bool} {st st' : WS} {us us' : List V} (w : Wd T H L) (h1 : HasW K L a p q mn tg fe st.mrk st.rs us) (h2 : HasW K L b p' q' mn' tg' fe' st'.mrk st'.rs us') (d1 : PdA H us (st.hs.map holdD)) (d2 : PdA H us' (st'.hs.map holdD)) (b1 : Bnd mn st) (b2 : Bnd mn' st')
    (k : ∀ H', Le H H' → Wd T H' L → Q (.bl (if neg then !decide (mn = mn' ∧ tg = tg' ∧ fe = fe' ∧ st.mrk = st'.mrk ∧ st.rs = st'.rs ∧ st.hs = st'.hs) else decide (mn = mn' ∧ tg = tg' ∧ fe = fe' ∧ st.mrk = st'.mrk ∧ st.rs = st'.rs ∧ st.hs = st'.hs))) H') : rOwn (CW K) neg (sp_eq K) E (.ref a) (.ref b) H Q := by
  obtain ⟨R1, s1⟩ := h1.s1
  obtain ⟨R2, s2⟩ := h2.s1
  obtain ⟨dx, g1⟩ := w.ins s1
  obtain ⟨dy, g2⟩ := w.ins s2
  exact ⟨a, dx, _, b, dy, _, rfl, rfl, g1, g2, .inl ⟨T, L, a, p, q, mn, tg, fe, st, us, b, p', q', mn', tg', fe', st', us', rfl, w, h1, h2, d1, d2, b1, b2, fun H' l w' => ⟨_, rfl, k H' l w'⟩⟩⟩
theorem k_doNo {a p q : Addr} {mn : Int} {tg fe : Bool} {st : WS} {us : List V} {v : V} {d : PyData} (w : Wd T H (fW K a p q mn tg fe st.mrk st.rs us F)) (hu : PdA H us (st.hs.map holdD)) (hl : st.rs.length < 1000000) (dp : Dp K H v d) (sh : SeqAt.shaped d = true) (no : stepB d = false)
    (k : Refuse T (fW K a p q mn tg fe st.mrk st.rs us F) (cBad0 K) "name" "step" H E) : sp_do K [.ref a, v] H Q E :=
  ⟨T, F, a, p, q, mn, tg, fe, st, us, v, d, rfl, w, hu, hl, dp, sh, (fun e => by rw [no] at e; cases e), fun _ => k, fun s ok e => by
    rw [e, stepB_ok ok] at no
    cases no⟩
/-- which one is refused -/
def Which (v1 v2 v3 : V) (n : Str) : Prop := (inB 0 100 v1 = false ∧ n = "many") ∨ (inB 0 100 v1 = true ∧ isBlV v2 = false ∧ n = "together") ∨ (inB 0 100 v1 = true ∧ isBlV v2 = true ∧ isBlV v3 = false ∧ n = "fenced")
theorem Which.a {v1 v2 v3 : V} {n : Str} (h : Which v1 v2 v3 n) (k : Refuse T L (cBad0 K) "name" n H E) (e : inB 0 100 v1 = false) : Refuse T L (cBad0 K) "name" "many" H E := by
  rcases h with ⟨_, rfl⟩ | ⟨f, _⟩ | ⟨f, _⟩
  · exact k
  · rw [e] at f; cases f
  · rw [e] at f; cases f
theorem Which.b {v1 v2 v3 : V} {n : Str} (h : Which v1 v2 v3 n) (k : Refuse T L (cBad0 K) "name" n H E) (e : inB 0 100 v1 = true) (e2 : isBlV v2 = false) : Refuse T L (cBad0 K) "name" "together" H E := by
  rcases h with ⟨f, rfl⟩ | ⟨_, _, rfl⟩ | ⟨_, f, _⟩
  · rw [e] at f; cases f
  · exact k
  · rw [e2] at f; cases f
theorem Which.c {v1 v2 v3 : V} {n : Str} (h : Which v1 v2 v3 n) (k : Refuse T L (cBad0 K) "name" n H E) (e : inB 0 100 v1 = true) (e2 : isBlV v2 = true) (e3 : isBlV v3 = false) : Refuse T L (cBad0 K) "name" "fenced" H E := by
  rcases h with ⟨f, rfl⟩ | ⟨_, f, _⟩ | ⟨_, _, _, rfl⟩
  · rw [e] at f; cases f
  · rw [e2] at f; cases f
  · exact k
theorem Which.no {v1 v2 v3 : V} {n : Str} (h : Which v1 v2 v3 n) {A : Prop} {mn : Int} {tg fe : Bool} (e1 : v1 = .int mn) (l0 : 0 ≤ mn) (l1 : mn ≤ 100) (e2 : v2 = .bl tg) (e3 : v3 = .bl fe) : A := by
  subst e1 e2 e3
  rcases h with ⟨f, _⟩ | ⟨_, f, _⟩ | ⟨_, _, f, _⟩
  · rw [inB_yes l0 l1] at f; cases f
  · cases f
  · cases f
theorem k_initR {x : Addr} {v1 v2 v3 : V} {T1 T2 T3 : String} {n : Str} (w : Wd T H ((x, isI (CW K) []) :: L)) (t1 : IsTy K H v1 T1) (t2 : IsTy K H v2 T2) (t3 : IsTy K H v3 T3) (h : Which v1 v2 v3 n) (k : Refuse T L (cBad0 K) "name" n H E) : sp_init K [.ref x, v1, v2, v3] H Q E :=
  ⟨T, L, x, v1, v2, v3, T1, T2, T3, rfl, w, t1, t2, t3, h.a k, h.b k, h.c k, fun mn tg fe e1 a b e2 e3 => h.no e1 a b e2 e3⟩
theorem k_dblR {v1 v2 v3 : V} {T1 T2 T3 : String} {n : Str} (w : Wd T H L) (t1 : IsTy K H v1 T1) (t2 : IsTy K H v2 T2) (t3 : IsTy K H v3 T3) (h : Which v1 v2 v3 n) (k : Refuse T L (cBad0 K) "name" n H E) : sp_dbl K [v1, v2, v3] H Q E :=
  ⟨T, L, v1, v2, v3, T1, T2, T3, rfl, w, t1, t2, t3, h.a k, h.b k, h.c k, fun mn tg fe e1 a b e2 e3 => h.no e1 a b e2 e3⟩
theorem k_isdblR {v1 v2 v3 v : V} {T1 T2 T3 Ty : String} {n : Str} (w : Wd T H L) (t1 : IsTy K H v1 T1) (t2 : IsTy K H v2 T2) (t3 : IsTy K H v3 T3) (t4 : ∀ H', Le H H' → Wd T H' L → IsTy K H' v Ty) (h : Which v1 v2 v3 n) (k : Refuse T L (cBad0 K) "name" n H E) : sp_isdbl K [v1, v2, v3, v] H Q E :=
  ⟨T, L, v1, v2, v3, v, T1, T2, T3, Ty, rfl, w, t1, t2, t3, t4, h.a k, h.b k, h.c k, fun mn tg fe e1 a b e2 e3 => h.no e1 a b e2 e3⟩
theorem k_onceR {v2 v3 : V} {T2 T3 : String} {n : Str} (w : Wd T H L) (t2 : IsTy K H v2 T2) (t3 : IsTy K H v3 T3) (h : Which (.int 1) v2 v3 n) (k : Refuse T L (cBad0 K) "name" n H E) : sp_once K [v2, v3] H Q E :=
  ⟨T, L, v2, v3, T2, T3, rfl, w, t2, t3, h.b k rfl, h.c k rfl, fun tg fe e2 e3 => h.no rfl (by decide) (by decide) e2 e3⟩
abbrev s__law_odd_right : Stmt := top 32
theorem sc__law_odd_right : FnScope ["dice", "work", "before", "odd", "bad", "number", "flag", "told"] ["dice", "work"] (defScope s__law_odd_right) := ⟨rfl, rfl, rfl, by decide +kernel, rfl, by decide +kernel, by decide +kernel⟩
def sp_odd (K : PySem.W.Frag) (T : List (Addr × Str)) : Sp := fun vs H Q _ => ∃ (L : List En) (d a p q : Addr) (n : Nat) (mn : Int) (tg fe : Bool) (st : WS) (us : List V), vs = [.ref d, .ref a] ∧ Wd T H ((d, isDice n) :: fW K a p q mn tg fe st.mrk st.rs us L) ∧ PdA H us (st.hs.map holdD) ∧ Bnd mn st ∧ n ≤ 100000 ∧ ∀ H', Le H H' → Wd T H' ((d, isDice (n + 3)) :: fW K a p q mn tg fe st.mrk st.rs us L) → Q (.bl true) H'
theorem ok__law_odd_right (C : Cx0 K mg base) (wd : He.tupB K "WORDS" [.str "take", .str "write", .str "mark", .str "drop"] = true) (o_BadArgument : OBad P w K mg base) (o_NotPossible : ONot P w K mg base) (xN : PySem.W.exmOne K (.ref (cNot0 K)) (.ref (cBad0 K)) = some false) (kitN : PySem.W.kitOne K (.type "NoneType") (.ref (CW K)) = some false) (own_mro : PySem.W.mroIn K (CW K) (.type "object") = some true) (own_ne : PySem.W.findIn K (.ref (CW K)) "__ne__" = some (some (.builtin "object.__ne__"))) {TT0 : List (Addr × Str)} {Pa : Addr} (TB : LamX.TabB base mg (He.codeOf K ("_law_odd_right", none)) Pa) (tm : (Pa, ("_law_odd_right.<locals>.<lambda>" : Str)) ∈ TT0) (tu : ∀ p ∈ TT0, p.1 = Pa → p.2 = "_law_odd_right.<locals>.<lambda>") :
    CalG P w K mg base 14 "_law_odd_right" ["dice", "work"] (sp_odd K TT0) := by
  have R_law_refused := ref_ok (P := P) (w := w) C o_BadArgument
  have c__law_pick := ok__law_pick (P := P) (w := w) C
  have m_twin := ok_twin (P := P) (w := w) C o_BadArgument
  have m_eq := ok_eq (P := P) (w := w) C kitN
  have mk_do := (ok_do (P := P) (w := w) C wd o_BadArgument o_NotPossible).2
  have mkn_Work := ok_init (P := P) (w := w) C o_BadArgument
  have c_is_just_once := ok_once (P := P) (w := w) C o_BadArgument
  have c_doubled_work := (ok_dbl (P := P) (w := w) C o_BadArgument).1
  have c_is_doubled_work := (ok_isdbl (P := P) (w := w) C wd o_BadArgument o_NotPossible xN).1
  refine C.calL 19 19 rfl rfl sc__law_odd_right (fun _ _ _ _ _ _ us hl => match us, hl with | [_, _], _ => rfl) (fun vs H Q E h => ?_) (fun cdv A outer s H vs Q E hcode gd hr h => ⟨_, PSs.nox
    (pss_cons (ps_set (i := 2) sc__law_odd_right.nd rfl (Or.inl rfl) (pe_me0 m_twin hr (by first | decide | omega) passL (pv 1)))
      (pss_cons (ps_set (i := 3) sc__law_odd_right.nd rfl (Or.inl rfl) (pe_lst (pa_cons pe_non (pa_cons (pe_tup pa_nil) (pa_cons pe_str (pa_cons (pe_tup (pa_cons pe_str (pa_cons pe_int pa_nil))) (pa_cons (pe_tup (pa_cons pe_str pa_nil)) (pa_cons (pe_tup (pa_cons pe_str (pa_cons pe_int pa_nil))) (pa_cons (pe_tup (pa_cons pe_str (pa_cons (pe_un un_neg pe_int) pa_nil))) (pa_cons (pe_tup (pa_cons pe_str (pa_cons pe_bl pa_nil))) (pa_cons (pe_tup (pa_cons pe_str (pa_cons pe_non pa_nil))) (pa_cons (pe_lst (pa_cons pe_str pa_nil)) (pa_cons (pe_tup (pa_cons pe_str (pa_cons pe_int (pa_cons pe_int pa_nil)))) (pa_cons (pe_tup (pa_cons pe_str (pa_cons pe_int pa_nil))) pa_nil))))))))))))))
      (pss_cons (ps_asg (pe_tup (pa_cons (pe_f c__law_pick hr (by first | decide | omega) passL (pa_cons (pv 0) (pa_cons (pv 3) pa_nil))) (pa_cons (pe_f c__law_pick hr (by first | decide | omega) passL (pa_cons (pv 0) (pa_cons (pe_lst (pa_cons (pe_un un_neg pe_int) (pa_cons pe_int (pa_cons pe_non (pa_cons pe_bl pa_nil))))) pa_nil))) (pa_cons (pe_f c__law_pick hr (by first | decide | omega) passL (pa_cons (pv 0) (pa_cons (pe_lst (pa_cons pe_non (pa_cons pe_int (pa_cons pe_int (pa_cons pe_str pa_nil))))) pa_nil))) pa_nil)))) (k_three (K := K) (i := 4) (j := 5) (l := 6) rfl sc__law_odd_right.nd rfl rfl rfl (Or.inr rfl) (Or.inr rfl) (Or.inr rfl) (Or.inl rfl) (Or.inl rfl) (Or.inl rfl) rfl))
      (pss_cons (ps_if (PW.pt (pw_or (pt_cmpR (k_ne (K := K) rfl hr) (pe_refT (T := TT0) (k := 10) R_law_refused TB hcode tm tu hr (by decide) (LamX.lamS_by (show LamX.lamSB (defScope s__law_odd_right) _ = true by decide +kernel)) rfl (fun _ _ _ _ _ => rfl) (fun A outer s H E f c_ hr => (pe_meK mk_do hr (by first | decide | omega) (passes_call (takes_of rfl rfl rfl rfl) fun _ _ _ _ h => h) (pv 1) (pk_cons (pv 4) pk_nil)))) pe_str (nomark _)) (pw_or1 (pt_cmpR (op_ownNe m_eq own_mro own_ne hr (by first | decide | omega) passL) (pv 1) (pv 2) (nomark _))))) (pss_one (ps_ret pe_bl)) pss_nil)
      (pss_cons (ps_set (i := 7) sc__law_odd_right.nd rfl (Or.inl rfl) (pe_lst (pa_cons (pe_refT (T := TT0) (k := 10) R_law_refused TB hcode tm tu hr (by decide) (LamX.lamS_by (show LamX.lamSB (defScope s__law_odd_right) _ = true by decide +kernel)) rfl (fun _ _ _ _ _ => rfl) (fun A outer s H E f c_ hr => (pe_mkN mkn_Work hr (by first | decide | omega) (passes_call (takes_of rfl rfl rfl rfl) fun _ _ _ _ h => h) (pa_cons (pv 5) pa_nil) (pk_cons (pv 6) (pk_cons (pv 6) pk_nil))))) (pa_cons (pe_refT (T := TT0) (k := 10) R_law_refused TB hcode tm tu hr (by decide) (LamX.lamS_by (show LamX.lamSB (defScope s__law_odd_right) _ = true by decide +kernel)) rfl (fun _ _ _ _ _ => rfl) (fun A outer s H E f c_ hr => (pe_mkN mkn_Work hr (by first | decide | omega) (passes_call (takes_of rfl rfl rfl rfl) fun _ _ _ _ h => h) (pa_cons pe_int pa_nil) (pk_cons (pv 6) (pk_cons (pv 6) pk_nil))))) pa_nil))))
      (pss_cons (ps_set (i := 7) sc__law_odd_right.nd rfl (Or.inl rfl) (pe_op (k_add (K := K) rfl) (pv 7) (pe_lst (pa_cons (pe_refT (T := TT0) (k := 10) R_law_refused TB hcode tm tu hr (by decide) (LamX.lamS_by (show LamX.lamSB (defScope s__law_odd_right) _ = true by decide +kernel)) rfl (fun _ _ _ _ _ => rfl) (fun A outer s H E f c_ hr => (pe_mkN mkn_Work hr (by first | decide | omega) (passes_call (takes_of rfl rfl rfl rfl) fun _ _ _ _ h => h) (pa_cons pe_int pa_nil) (pk_cons pe_bl (pk_cons (pv 6) pk_nil))))) (pa_cons (pe_refT (T := TT0) (k := 10) R_law_refused TB hcode tm tu hr (by decide) (LamX.lamS_by (show LamX.lamSB (defScope s__law_odd_right) _ = true by decide +kernel)) rfl (fun _ _ _ _ _ => rfl) (fun A outer s H E f c_ hr => (pe_f c_is_just_once hr (by first | decide | omega) (passes_call (takes_of rfl rfl rfl rfl) fun _ _ _ _ h => h) (pa_cons (pv 6) (pa_cons (pv 6) pa_nil))))) (pa_cons (pe_refT (T := TT0) (k := 10) R_law_refused TB hcode tm tu hr (by decide) (LamX.lamS_by (show LamX.lamSB (defScope s__law_odd_right) _ = true by decide +kernel)) rfl (fun _ _ _ _ _ => rfl) (fun A outer s H E f c_ hr => (pe_f c_is_just_once hr (by first | decide | omega) (passes_call (takes_of rfl rfl rfl rfl) fun _ _ _ _ h => h) (pa_cons pe_bl (pa_cons (pv 6) pa_nil))))) pa_nil))))))
      (pss_cons (ps_set (i := 7) sc__law_odd_right.nd rfl (Or.inl rfl) (pe_op (k_add (K := K) rfl) (pv 7) (pe_lst (pa_cons (pe_refT (T := TT0) (k := 10) R_law_refused TB hcode tm tu hr (by decide) (LamX.lamS_by (show LamX.lamSB (defScope s__law_odd_right) _ = true by decide +kernel)) rfl (fun _ _ _ _ _ => rfl) (fun A outer s H E f c_ hr => (pe_f c_doubled_work hr (by first | decide | omega) (passes_call (takes_of rfl rfl rfl rfl) fun _ _ _ _ h => h) (pa_cons (pv 5) (pa_cons (pv 6) (pa_cons (pv 6) pa_nil)))))) (pa_cons (pe_refT (T := TT0) (k := 10) R_law_refused TB hcode tm tu hr (by decide) (LamX.lamS_by (show LamX.lamSB (defScope s__law_odd_right) _ = true by decide +kernel)) rfl (fun _ _ _ _ _ => rfl) (fun A outer s H E f c_ hr => (pe_f c_is_doubled_work hr (by first | decide | omega) (passes_call (takes_of rfl rfl rfl rfl) fun _ _ _ _ h => h) (pa_cons pe_int (pa_cons pe_bl (pa_cons (pv 6) (pa_cons (pe_tup pa_nil) pa_nil))))))) pa_nil)))))
      (pss_one (ps_ret (pe_cmpR (k_eq (K := K) rfl hr) (pv 7) (pe_lst (pa_cons pe_str (pa_cons pe_str (pa_cons pe_str (pa_cons pe_str (pa_cons pe_str (pa_cons pe_str (pa_cons pe_str pa_nil)))))))) (nomark _))))))))))), ?_⟩)
  · obtain ⟨L, d, a, p, q, n, mn, tg, fe, st, us, rfl, _⟩ := h
    rfl
  · obtain ⟨L, d, a, p, q, n, mn, tg, fe, st, us, rfl, w0, hu, bn, hn, k⟩ := h
    have hsel : ∀ {X : List En}, HasW K ((d, isDice n) :: fW K a p q mn tg fe st.mrk st.rs us L) a p q mn tg fe st.mrk st.rs us := ⟨⟨_, .tail .head⟩, ⟨_, .tail (.tail .head)⟩, ⟨_, .tail (.tail (.tail .head))⟩⟩
    repeat walk_at "go"
    refine k_twin w0 (hsel (X := [])) bn.m0 bn.m1 fun b p' q' H1 l1 w1 => ?_
    repeat walk_at "go"
    refine k_pickL (by assumption) (by walk_at "sel") (by walk_at "sel") (by omega) (by simp) (by simp) fun bad H2 hbad l2 w2 => ?_
    simp only [List.mem_cons, List.not_mem_nil, or_false] at hbad
    repeat walk_at "go"
    refine k_pickL (by assumption) (by walk_at "sel") (by walk_at "sel") (by omega) (by simp) (by simp) fun num H3 hnum l3 w3 => ?_
    obtain ⟨Tn, tyn, non⟩ : ∃ Ty, (∀ H', IsTy K H' num Ty) ∧ inB 0 100 num = false := by
      simp only [List.mem_cons, List.not_mem_nil, or_false] at hnum
      rcases hnum with rfl | rfl | rfl | rfl
      · exact ⟨_, fun _ => .int _, rfl⟩
      · exact ⟨_, fun _ => .int _, rfl⟩
      · exact ⟨_, fun _ => .non, rfl⟩
      · exact ⟨_, fun _ => .bl _, rfl⟩
    repeat walk_at "go"
    refine k_pickL (by assumption) (by walk_at "sel") (by walk_at "sel") (by omega) (by simp) (by simp) fun flag H4 hflag l4 w4 => ?_
    obtain ⟨Tf, tyf, nof⟩ : ∃ Ty, (∀ H', IsTy K H' flag Ty) ∧ isBlV flag = false := by
      simp only [List.mem_cons, List.not_mem_nil, or_false] at hflag
      rcases hflag with rfl | rfl | rfl | rfl
      · exact ⟨_, fun _ => .non, rfl⟩
      · exact ⟨_, fun _ => .int _, rfl⟩
      · exact ⟨_, fun _ => .int _, rfl⟩
      · exact ⟨_, fun _ => .str _, rfl⟩
    repeat walk_at "go"
    refine n_ref (by assumption) fun H5 l5 w5 => ?_
    repeat walk_at "go"
    obtain ⟨db, dpb, sb, shb⟩ : ∃ db, Dp K H5 bad db ∧ stepB db = false ∧ SeqAt.shaped db = true := by
      rcases hbad with rfl | rfl | rfl | rfl | rfl | rfl | rfl | rfl | rfl | rfl | rfl | rfl <;> exact ⟨_, by walk_at "dp", by decide +kernel, by decide +kernel⟩
    have hu5 : PdA H5 us (st.hs.map holdD) := hu.le (by walk_at "le")
    have hl9 := bn.rl
    refine k_doNo (by walk_at "wd") hu5 (by omega) dpb shb sb (Refuse.caught fun H6 l6 w6 => ?_)
    repeat walk_at "go"
    refine k_own (st := st) (st' := st) (by assumption) ⟨⟨_, by walk_at "sel"⟩, ⟨_, by walk_at "sel"⟩, ⟨_, by walk_at "sel"⟩⟩ ⟨⟨_, by walk_at "sel"⟩, ⟨_, by walk_at "sel"⟩, ⟨_, by walk_at "sel"⟩⟩ (hu5.le l6) (hu5.le l6) bn bn fun H7 l7 w7 => ?_
    refine ⟨_, rfl, ?_⟩
    rw [decide_eq_true (show mn = mn ∧ tg = tg ∧ fe = fe ∧ st.mrk = st.mrk ∧ st.rs = st.rs ∧ st.hs = st.hs from ⟨rfl, rfl, rfl, rfl, rfl, rfl⟩)]
    repeat walk_at "go"
    refine n_ref (by assumption) fun H8 l8 w8 => ?_
    repeat walk_at "go"
    refine k_initR (by assumption) (tyn _) (tyf _) (tyf _) (.inl ⟨non, rfl⟩) (Refuse.caught fun H9 l9 w9 => ?_)
    repeat walk_at "go"
    refine n_ref (by assumption) fun H10 l10 w10 => ?_
    repeat walk_at "go"
    refine k_initR (by assumption) (.int _) (tyf _) (tyf _) (.inr (.inl ⟨rfl, nof, rfl⟩)) (Refuse.caught fun H11 l11 w11 => ?_)
    repeat walk_at "go"
    refine n_ref (by assumption) fun H12 l12 w12 => ?_
    repeat walk_at "go"
    refine k_initR (by assumption) (.int _) (.bl _) (tyf _) (.inr (.inr ⟨rfl, rfl, nof, rfl⟩)) (Refuse.caught fun H13 l13 w13 => ?_)
    repeat walk_at "go"
    refine n_ref (by assumption) fun H14 l14 w14 => ?_
    repeat walk_at "go"
    refine k_onceR (by assumption) (tyf _) (tyf _) (.inr (.inl ⟨rfl, nof, rfl⟩)) (Refuse.caught fun H15 l15 w15 => ?_)
    repeat walk_at "go"
    refine n_ref (by assumption) fun H16 l16 w16 => ?_
    repeat walk_at "go"
    refine k_onceR (by assumption) (.bl _) (tyf _) (.inr (.inr ⟨rfl, rfl, nof, rfl⟩)) (Refuse.caught fun H17 l17 w17 => ?_)
    repeat walk_at "go"
    refine n_catL (by with_reducible assumption) (by walk_at "sel") (by walk_at "sel") (by decide) fun g1 H18 l18 w18 => ?_
    simp only [List.cons_append, List.nil_append] at w18
    repeat walk_at "go"
    refine n_ref (by assumption) fun H19 l19 w19 => ?_
    repeat walk_at "go"
    refine k_dblR (by assumption) (tyn _) (tyf _) (tyf _) (.inl ⟨non, rfl⟩) (Refuse.caught fun H20 l20 w20 => ?_)
    repeat walk_at "go"
    refine n_ref (by assumption) fun H21 l21 w21 => ?_
    repeat walk_at "go"
    refine k_isdblR (by assumption) (.int _) (.bl _) (tyf _) (fun H' l _ => .sqT ((by walk_at "tu" : Tu _ _ []).le l).sq) (.inr (.inr ⟨rfl, rfl, nof, rfl⟩)) (Refuse.caught fun H22 l22 w22 => ?_)
    repeat walk_at "go"
    refine n_catL (by with_reducible assumption) (by walk_at "sel") (by walk_at "sel") (by decide) fun g2 H23 l23 w23 => ?_
    simp only [List.cons_append, List.nil_append] at w23
    repeat walk_at "go"
    refine n_eqT (by walk_at "dp") (by walk_at "dp") (by decide +kernel) (by decide +kernel) (by decide +kernel) ?_
    exact k _ (by walk_at "le") (by walk_at "wd")
end
end K82

local macro_rules | `(tactic| walk_at "wdD") => `(tactic| ((with_reducible apply Wd.pk); (with_reducible assumption); walk_at "pkD"))
local macro_rules | `(tactic| walk_at "ws") => `(tactic| (with_reducible assumption; walk_at "sel"))
local macro_rules | `(tactic| walk_at "nd") => `(tactic| (refine of_decide_eq_true ?_; with_unfolding_all rfl))
local macro_rules | `(tactic| walk_at "lk") => `(tactic| with_unfolding_all rfl)

namespace K82
theorem set_get {hs : List Hold} {n i : Nat} {v : Hold} {x : Int × Bool} (h : (hs.set n v)[i]? = some (some x)) : (i = n ∧ v = some x) ∨ (i ≠ n ∧ hs[i]? = some (some x)) := by
  rw [List.getElem?_set] at h
  split at h
  · rename_i e
    split at h
    · exact .inl ⟨e.symm, Option.some.inj h⟩
    · cases h
  · rename_i e
    exact .inr ⟨fun z => e z.symm, h⟩
def upto (m : Int) : List Int := (List.range m.toNat).map fun i : Nat => (i : Int)
theorem upto_succ {m : Int} (h : 0 ≤ m) : upto (m + 1) = upto m ++ [m] := by
  obtain ⟨k, rfl⟩ := Int.eq_ofNat_of_zero_le h
  unfold upto
  rw [show ((k : Int) + 1).toNat = k + 1 by omega, Int.toNat_natCast, List.range_succ, List.map_append]
  rfl
structure WInv (mn : Int) (tg fe : Bool) (c : Nat) (st : WS) : Prop where
  m0 : 0 ≤ st.mrk
  m1 : st.mrk ≤ mn
  res : ∀ j, 0 ≤ j → j < st.mrk → j ∈ st.rs
  held : ∀ (i : Nat) (n : Int) (b : Bool), st.hs[i]? = some (some (n, b)) → 0 ≤ n ∧ n < mn ∧ (∀ j, 0 ≤ j → j < n → j ∈ st.rs) ∧ (b = true → tg = false → n ∈ st.rs)
  both : tg = true → fe = true → st.rs = upto st.mrk ∧ ∀ (i : Nat) (n : Int) (b : Bool), st.hs[i]? = some (some (n, b)) → i + 1 = st.hs.length → n = st.mrk
  len : st.rs.length ≤ c
  rng : ∀ n ∈ st.rs, 0 ≤ n ∧ n < mn
  h1 : 1 ≤ st.hs.length
  h12 : st.hs.length ≤ 12
theorem WInv.init {mn : Int} {tg fe : Bool} (h : 0 ≤ mn) : WInv mn tg fe 0 ⟨0, [], [none]⟩ := by
  refine ⟨Int.le_refl _, h, fun j a b => by have b : j < 0 := b; omega, fun i n b e => ?_, fun _ _ => ⟨rfl, fun i n b e => ?_⟩, Nat.le_refl _, fun n hn => (nomatch hn), by decide, by decide⟩
  all_goals
    match i, e with
    | 0, e => cases e
    | i + 1, e => cases e
theorem WInv.weak {mn : Int} {tg fe : Bool} {c c' : Nat} {st : WS} (h : WInv mn tg fe c st) (l : c ≤ c') : WInv mn tg fe c' st := { h with len := Nat.le_trans h.len l }
theorem WInv.step {mn : Int} {tg fe : Bool} {c : Nat} {st : WS} {s : Stp} (h : WInv mn tg fe c st) (ok : OkS s) (cb : canB mn st s = true) : WInv mn tg fe (c + 1) (nxtB tg fe st s) := by
  have h12 := nxtB_hs (tg := tg) (fe := fe) cb h.h12
  cases s with
  | nxt =>
    have old : ∀ i x, (st.hs ++ [none])[i]? = some (some x) → st.hs[i]? = some (some x) ∧ i < st.hs.length := fun i x e => by
      by_cases l : i < st.hs.length
      · rw [List.getElem?_append_left l] at e
        exact ⟨e, l⟩
      · rw [List.getElem?_append_right (by omega)] at e
        cases q : i - st.hs.length with
        | zero => rw [q] at e; cases e
        | succ k => rw [q] at e; cases e
    refine ⟨h.m0, h.m1, h.res, fun i n b e => h.held i n b (old i _ e).1, fun a b => ⟨(h.both a b).1, fun i n b2 e l => ?_⟩, Nat.le_succ_of_le h.len, h.rng, ?_, h12⟩
    · have := (old i _ e).2
      have l : i + 1 = (st.hs ++ [none]).length := l
      rw [List.length_append, List.length_singleton] at l
      omega
    · show 1 ≤ (st.hs ++ [none]).length
      rw [List.length_append, List.length_singleton]
      omega
  | on x n =>
    by_cases c1 : x = "take"
    · rw [nxtB_take c1] at h12 ⊢
      cases hh : st.hs[n]? with
      | none =>
        rw [canB_off (List.getElem?_eq_none_iff.mp hh)] at cb
        cases cb
      | some hd =>
        rw [canB_on hh] at cb
        unfold canH at cb
        rw [if_pos c1, Bool.and_eq_true, decide_eq_true_iff] at cb
        have hl : (st.hs.set n (some (st.mrk, false))).length = st.hs.length := List.length_set
        refine ⟨h.m0, h.m1, h.res, fun i k b e => ?_, fun a b => ⟨(h.both a b).1, fun i k b2 e l => ?_⟩, Nat.le_succ_of_le h.len, h.rng, by rw [hl]; exact h.h1, h12⟩
        · rcases set_get e with ⟨_, e⟩ | ⟨_, e⟩
          · cases e
            exact ⟨h.m0, cb.2, h.res, fun z => nomatch z⟩
          · exact h.held i k b e
        · rcases set_get e with ⟨_, e⟩ | ⟨_, e⟩
          · cases e
            rfl
          · exact (h.both a b).2 i k b2 e (by rw [← hl]; exact l)
    by_cases c2 : x = "drop"
    · rw [nxtB_drop c1 c2] at h12 ⊢
      have hl : (st.hs.set n none).length = st.hs.length := List.length_set
      refine ⟨h.m0, h.m1, h.res, fun i k b e => ?_, fun a b => ⟨(h.both a b).1, fun i k b2 e l => ?_⟩, Nat.le_succ_of_le h.len, h.rng, by rw [hl]; exact h.h1, h12⟩
      · rcases set_get e with ⟨_, e⟩ | ⟨_, e⟩
        · cases e
        · exact h.held i k b e
      · rcases set_get e with ⟨_, e⟩ | ⟨_, e⟩
        · cases e
        · exact (h.both a b).2 i k b2 e (by rw [← hl]; exact l)
    cases hh : st.hs[n]? with
    | none =>
      rw [canB_off (List.getElem?_eq_none_iff.mp hh)] at cb
      cases cb
    | some hd =>
      rw [canB_on hh] at cb
      unfold canH at cb
      rw [if_neg c1, if_neg c2] at cb
      match hd, cb, hh with
      | some (k0, b0), cb, hh =>
      have hk := h.held n k0 b0 hh
      by_cases c3 : x = "write"
      · rw [nxtB_write c1 c2 hh c3] at h12 ⊢
        have hl : (st.hs.set n (some (k0, true))).length = st.hs.length := List.length_set
        have sub : ∀ j, j ∈ st.rs → j ∈ (if tg = true then st.rs else st.rs ++ [k0]) := fun j hj => by
          split
          · exact hj
          · exact List.mem_append_left _ hj
        refine ⟨h.m0, h.m1, fun j a b => sub j (h.res j a b), fun i k b e => ?_, fun a b => ⟨?_, fun i k b2 e l => ?_⟩, ?_, fun j hj => ?_, by rw [hl]; exact h.h1, h12⟩
        · rcases set_get e with ⟨_, e⟩ | ⟨_, e⟩
          · cases e
            refine ⟨hk.1, hk.2.1, fun j a b => sub j (hk.2.2.1 j a b), fun _ t => ?_⟩
            show k0 ∈ (if tg = true then st.rs else st.rs ++ [k0])
            rw [if_neg (by rw [t]; decide)]
            exact List.mem_append_right _ (List.mem_singleton.mpr rfl)
          · obtain ⟨x1, x2, x3, x4⟩ := h.held i k b e
            exact ⟨x1, x2, fun j a b => sub j (x3 j a b), fun a b => sub k (x4 a b)⟩
        · show (if tg = true then st.rs else st.rs ++ [k0]) = _
          rw [if_pos a]
          exact (h.both a b).1
        · rcases set_get e with ⟨e1, e⟩ | ⟨_, e⟩
          · cases e
            exact (h.both a b).2 n k0 b0 hh (by rw [← e1, ← hl]; exact l)
          · exact (h.both a b).2 i k b2 e (by rw [← hl]; exact l)
        · show (if tg = true then st.rs else st.rs ++ [k0]).length ≤ c + 1
          have := h.len
          split
          · omega
          · rw [List.length_append, List.length_singleton]; omega
        · have hj : j ∈ (if tg = true then st.rs else st.rs ++ [k0]) := hj
          split at hj
          · exact h.rng j hj
          · rcases List.mem_append.mp hj with hj | hj
            · exact h.rng j hj
            · rw [List.mem_singleton.mp hj]
              exact ⟨hk.1, hk.2.1⟩
      · rw [nxtB_mark c1 c2 hh c3] at h12 ⊢
        have hl : (st.hs.set n none).length = st.hs.length := List.length_set
        by_cases c4 : fe = true ∧ n + 1 ≠ st.hs.length
        · rw [if_pos c4] at h12 ⊢
          refine ⟨h.m0, h.m1, h.res, fun i k b e => ?_, fun a b => ⟨(h.both a b).1, fun i k b2 e l => ?_⟩, Nat.le_succ_of_le h.len, h.rng, by rw [hl]; exact h.h1, h12⟩
          · rcases set_get e with ⟨_, e⟩ | ⟨_, e⟩
            · cases e
            · exact h.held i k b e
          · rcases set_get e with ⟨_, e⟩ | ⟨_, e⟩
            · cases e
            · exact (h.both a b).2 i k b2 e (by rw [← hl]; exact l)
        · rw [if_neg c4] at h12 ⊢
          have hx : x = "mark" := by
            have := ok.1
            simp only [words, List.mem_cons, List.not_mem_nil, or_false] at this
            rcases this with e | e | e | e
            · exact (c1 e).elim
            · exact (c3 e).elim
            · exact e
            · exact (c2 e).elim
          have hb0 : b0 = true := by
            have cb : decide (b0 = decide (x = "mark")) = true := cb
            have := of_decide_eq_true cb
            rw [this]
            exact decide_eq_true hx
          have sub : ∀ j, j ∈ st.rs → j ∈ (if tg = true then st.rs ++ [k0] else st.rs) := fun j hj => by
            split
            · exact List.mem_append_left _ hj
            · exact hj
          have kin : k0 ∈ (if tg = true then st.rs ++ [k0] else st.rs) := by
            cases tg
            · exact hk.2.2.2 hb0 rfl
            · exact List.mem_append_right _ (List.mem_singleton.mpr rfl)
          refine ⟨by show 0 ≤ k0 + 1; have := hk.1; omega, by show k0 + 1 ≤ mn; have := hk.2.1; omega, fun j a b => ?_, fun i k b e => ?_, fun a b => ⟨?_, fun i k b2 e l => ?_⟩, ?_, fun j hj => ?_, by rw [hl]; exact h.h1, h12⟩
          · have b : j < k0 + 1 := b
            by_cases e : j = k0
            · rw [e]
              exact kin
            · exact sub j (hk.2.2.1 j a (by omega))
          · rcases set_get e with ⟨_, e⟩ | ⟨_, e⟩
            · cases e
            · obtain ⟨x1, x2, x3, x4⟩ := h.held i k b e
              exact ⟨x1, x2, fun j a b => sub j (x3 j a b), fun a b => sub k (x4 a b)⟩
          · have nl : n + 1 = st.hs.length := by
              apply Classical.byContradiction
              intro z
              exact c4 ⟨b, z⟩
            have ek := (h.both a b).2 n k0 b0 hh nl
            show (if tg = true then st.rs ++ [k0] else st.rs) = upto (k0 + 1)
            rw [if_pos a, upto_succ hk.1, (h.both a b).1, ← ek]
          · have nl : n + 1 = st.hs.length := by
              apply Classical.byContradiction
              intro z
              exact c4 ⟨b, z⟩
            rcases set_get e with ⟨_, e⟩ | ⟨ne, e⟩
            · cases e
            · rw [hl] at l
              omega
          · show (if tg = true then st.rs ++ [k0] else st.rs).length ≤ c + 1
            have := h.len
            split
            · rw [List.length_append, List.length_singleton]; omega
            · omega
          · have hj : j ∈ (if tg = true then st.rs ++ [k0] else st.rs) := hj
            split at hj
            · rcases List.mem_append.mp hj with hj | hj
              · exact h.rng j hj
              · rw [List.mem_singleton.mp hj]
                exact ⟨hk.1, hk.2.1⟩
            · exact h.rng j hj
theorem WInv.bnd {mn : Int} {tg fe : Bool} {c : Nat} {st : WS} (h : WInv mn tg fe c st) (m0 : 0 ≤ mn) (m1 : mn ≤ 100) (hc : c ≤ 200) : Bnd mn st := by
  refine ⟨m0, m1, h.m0, by have := h.m1; omega, by have := h.len; omega, fun n hn => by have := h.rng n hn; omega, h.h1, h.h12, fun x hx n b e => ?_⟩
  subst e
  obtain ⟨i, hi⟩ := List.getElem?_of_mem hx
  have := h.held i n b hi
  omega
end K82

local macro_rules | `(tactic| walk_at "wdD") => `(tactic| ((with_reducible apply Wd.pk); (with_reducible assumption); walk_at "pkD"))
local macro_rules | `(tactic| walk_at "ws") => `(tactic| (with_reducible assumption; walk_at "sel"))
local macro_rules | `(tactic| walk_at "nd") => `(tactic| (refine of_decide_eq_true ?_; with_unfolding_all rfl))
local macro_rules | `(tactic| walk_at "lk") => `(tactic| with_unfolding_all rfl)

namespace K82
section
variable {P : Program} {w : World} {K : PySem.W.Frag} {mg : Str → Option Value} {base : Heap} {T : List (Addr × Str)} {H : Hp} {L F R : List En} {E : XK} {Q : VK}
theorem seq1_abs {s1 r : TS} {D : Ends} {σ : St} (Φ : St → Hp → Prop) (rest : ∀ σ H, Φ σ H → r D σ H) (h : ∀ N : St → Hp → Prop, (∀ σ H, Φ σ H → N σ H) → s1 { D with nx := N } σ H) : tSeq s1 r D σ H := h _ rest
theorem r_par3 {i j l : Nat} {ta : TA} {D : Ends} {σ : St} (h : ta σ H fun vs H1 => ∃ u v w, vs = [u, v, w] ∧ D.nx (((σ.set i (some u)).set j (some v)).set l (some w)) H1) : tPar3 i j l ta D σ H := h
theorem seq2_abs {s1 s2 r : TS} {D : Ends} {σ : St} (Φ : St → Hp → Prop) (rest : ∀ σ H, Φ σ H → r D σ H) (h : ∀ N : St → Hp → Prop, (∀ σ H, Φ σ H → N σ H) → tSeq s1 s2 { D with nx := N } σ H) : tSeq s1 (tSeq s2 r) D σ H := h _ rest
theorem Pd.hd {v : V} {s : Stp} (h : Pd H v (stpD s)) : ∃ b rest, v = .ref b ∧ Tu H b (.str (wordOf s) :: rest) := by
  cases s with
  | nxt =>
    obtain ⟨b, rfl, t⟩ := Pd.nx h
    exact ⟨b, _, rfl, t⟩
  | on x n =>
    obtain ⟨b, rfl, t⟩ := Pd.on h
    exact ⟨b, _, rfl, t⟩
theorem note_sh {s : Stp} (ok : OkS s) : SeqAt.shaped (.tuple [.str "not", .str (wordOf s)]) = true := by
  cases s with
  | nxt => decide +kernel
  | on x n =>
    have := ok.1
    simp only [words, List.mem_cons, List.not_mem_nil, or_false] at this
    rcases this with rfl | rfl | rfl | rfl
    · exact (by decide +kernel : SeqAt.shaped (.tuple [.str "not", .str "take"]) = true)
    · exact (by decide +kernel : SeqAt.shaped (.tuple [.str "not", .str "write"]) = true)
    · exact (by decide +kernel : SeqAt.shaped (.tuple [.str "not", .str "mark"]) = true)
    · exact (by decide +kernel : SeqAt.shaped (.tuple [.str "not", .str "drop"]) = true)
theorem note_eq {x y : Str} : PyData.eqv (.tuple [.str x, .str y]) (.tuple [.str x, .str y]) = true := by simp [PyData.eqv, PyData.eqvAll]
theorem r_ninF {v : V} {a : Addr} {xs : List V} (h : SqT K H a xs) (f1 : flatV v = true) (f2 : xs.all flatV = true) (q : Q (.bl (!inV v xs)) H) : rNinA K v (.ref a) H Q := .inl ⟨a, xs, rfl, .inr h, f1, f2, q⟩
theorem inV_int {j : Int} {rs : List Int} (h : j ∈ rs) : inV (.int j) (rs.map V.int) = true := by
  unfold inV
  rw [List.any_map]
  exact List.any_eq_true.mpr ⟨j, h, by simp [eqV]⟩
theorem flat_ints {rs : List Int} : (rs.map V.int).all flatV = true := by
  rw [List.all_map]
  exact List.all_eq_true.mpr fun _ _ => rfl
theorem rg_upto {m : Int} : rgV 0 m = (upto m).map V.int := by
  unfold rgV upto
  rw [List.map_map, Int.sub_zero]
  refine List.map_congr_left fun i _ => ?_
  show V.int (0 + (i : Int)) = V.int (i : Int)
  rw [Int.zero_add]
theorem r_rg1 {te : TE} {σ : St} {Q : Int → Int → Hp → Prop} (h : te σ H fun x H1 => ∃ b, x = .int b ∧ Q 0 b H1) : tRg1 te σ H Q := h
theorem and_var {σ : St} {i j : Nat} {a b : Bool} (hi : σ[i]? = some (some (.bl a))) (hj : σ[j]? = some (some (.bl b))) (h : Q (.bl (a && b)) H) : tAndV (tVar i) (tVar j) σ H Q := by
  refine r_andV ⟨_, hi, a, rfl, ?_⟩
  cases a
  · exact h
  · exact ⟨_, hj, h⟩
theorem k_do {a p q : Addr} {mn : Int} {tg fe : Bool} {st : WS} {us : List V} {v : V} {s : Stp} (w : Wd T H (fW K a p q mn tg fe st.mrk st.rs us F)) (hu : PdA H us (st.hs.map holdD)) (hl : st.rs.length < 1000000) (hv : Pd H v (stpD s)) (ok : OkS s)
    (k1 : canB mn st s = false → Refuse T (fW K a p q mn tg fe st.mrk st.rs us F) (cNot0 K) "word" (wordOf s) H E)
    (k2 : canB mn st s = true → ∀ us' H', Le H H' → Wd T H' (fW K a p q mn tg fe (nxtB tg fe st s).mrk (nxtB tg fe st s).rs us' F) → PdA H' us' ((nxtB tg fe st s).hs.map holdD) → Q .non H') : sp_do K [.ref a, v] H Q E :=
  ⟨T, F, a, p, q, mn, tg, fe, st, us, v, stpD s, rfl, w, hu, hl, hv.dp, stpD_shp ok, fun _ => hv, (fun e => by rw [stepB_ok ok] at e; cases e), fun s' ok' e => by
    obtain rfl := stpD_inj e
    exact ⟨k1, k2⟩⟩
def st10 : List Stp := [.on "take" 0, .on "write" 0, .nxt, .on "take" 1, .on "write" 1, .on "mark" 1, .on "take" 1, .on "write" 1, .on "mark" 1, .on "mark" 0]
theorem st10_ok : ∀ s ∈ st10, OkS s := by
  intro s hs
  simp only [st10, List.mem_cons, List.not_mem_nil, or_false] at hs
  rcases hs with rfl | rfl | rfl | rfl | rfl | rfl | rfl | rfl | rfl | rfl <;> first | trivial | exact ok_of (by decide +kernel) (by decide)
abbrev Q1 : Str := "_law_right.<locals>.<lambda>"
abbrev s__law_right : Stmt := top 33
theorem sc__law_right : FnScope ["dice", "many", "together", "fenced", "work", "own", "steps", "turn", "step", "due", "at", "twin"] ["dice"] (defScope s__law_right) := ⟨rfl, rfl, rfl, by decide +kernel, rfl, by decide +kernel, by decide +kernel⟩
def sp_right (K : PySem.W.Frag) (T : List (Addr × Str)) : Sp := fun vs H Q _ => ∃ d L, vs = [.ref d] ∧ Wd T H ((d, isDice 0) :: L) ∧ ∀ n H', Le H H' → Wd T H' ((d, isDice n) :: L) → Q (.bl true) H'
theorem ok__law_right (C : Cx0 K mg base) (wd : He.tupB K "WORDS" [.str "take", .str "write", .str "mark", .str "drop"] = true) (o_BadArgument : OBad P w K mg base) (o_NotPossible : ONot P w K mg base) (xN : PySem.W.exmOne K (.ref (cNot0 K)) (.ref (cBad0 K)) = some false) (kitN : PySem.W.kitOne K (.type "NoneType") (.ref (CW K)) = some false) (own_sub : PySem.W.subIn K (.type "NoneType") (.ref (CW K)) = some false) (own_mro : PySem.W.mroIn K (CW K) (.type "object") = some true) (own_ne : PySem.W.findIn K (.ref (CW K)) "__ne__" = some (some (.builtin "object.__ne__"))) {TT0 : List (Addr × Str)} {Pa Pb : Addr} (TBa : LamX.TabB base mg (He.codeOf K ("_law_odd_right", none)) Pa) (tma : (Pa, ("_law_odd_right.<locals>.<lambda>" : Str)) ∈ TT0) (tua : ∀ p ∈ TT0, p.1 = Pa → p.2 = "_law_odd_right.<locals>.<lambda>")
    (TB : LamX.TabB base mg (He.codeOf K ("_law_right", none)) Pb) (tm : (Pb, Q1) ∈ TT0) (tu : ∀ p ∈ TT0, p.1 = Pb → p.2 = Q1) :
    CalG P w K mg base 17 "_law_right" ["dice"] (sp_right K TT0) := by
  have R_law_told := told_ok (P := P) (w := w) C o_NotPossible
  have c__law_pick := ok__law_pick (P := P) (w := w) C
  have c__law_roll := ok__law_roll (P := P) (w := w) C
  have c__law_work := ok__law_work (P := P) (w := w) C
  have c__law_work_do := ok__law_work_do (P := P) (w := w) C
  have c__law_step := ok__law_step (P := P) (w := w) C
  have c__law_shows := ok__law_shows (P := P) (w := w) C
  have c__law_odd_right := ok__law_odd_right (P := P) (w := w) C wd o_BadArgument o_NotPossible xN kitN own_mro own_ne TBa tma tua
  have c__law_courses_right := ok__law_courses_right (P := P) (w := w) C wd o_BadArgument o_NotPossible xN
  have m_twin := ok_twin (P := P) (w := w) C o_BadArgument
  have m_eq := ok_eq (P := P) (w := w) C kitN
  have m_do := (ok_do (P := P) (w := w) C wd o_BadArgument o_NotPossible).1
  have mkn_Work := ok_init (P := P) (w := w) C o_BadArgument
  have c_is_just_once := ok_once (P := P) (w := w) C o_BadArgument
  have p_results := ok_results (P := P) (w := w) C
  have p_newest := ok_newest (P := P) (w := w) C
  obtain ⟨cl, n1, n2, n3, n4, n5, n6⟩ := wat C
  refine C.calL 20 20 rfl rfl sc__law_right (fun _ _ _ _ _ _ us hl => match us, hl with | [_], _ => rfl) (fun vs H Q E h => ?_) (fun cdv A outer s H vs Q E hcode gd hr h => ⟨_, PSs.nox
    (pss_cons (ps_par3 (i := 1) (j := 2) (l := 3) rfl sc__law_right.nd rfl rfl rfl (by decide) (by decide) (by decide) rfl rfl rfl (pa_cons (pe_f c__law_pick hr (by first | decide | omega) passL (pa_cons (pv 0) (pa_cons (pe_lst (pa_cons pe_int (pa_cons pe_int (pa_cons pe_int (pa_cons pe_int (pa_cons pe_int (pa_cons pe_int pa_nil))))))) pa_nil))) (pa_cons (pe_cmpR (k_eq (K := K) rfl hr) (pe_f c__law_roll hr (by first | decide | omega) passL (pa_cons (pv 0) (pa_cons pe_int pa_nil))) pe_int (nomark _)) (pa_cons (pe_cmpR (k_eq (K := K) rfl hr) (pe_f c__law_roll hr (by first | decide | omega) passL (pa_cons (pv 0) (pa_cons pe_int pa_nil))) pe_int (nomark _)) pa_nil))) (by rfl))
      (pss_cons (ps_asg (pe_tup (pa_cons (pe_mkN mkn_Work hr (by first | decide | omega) passL (pa_cons (pv 1) pa_nil) (pk_cons (pv 2) (pk_cons (pv 3) pk_nil))) (pa_cons (pe_f c__law_work hr (by first | decide | omega) passL (pa_cons (pv 1) (pa_cons (pv 2) (pa_cons (pv 3) pa_nil)))) pa_nil))) (k_two (K := K) (i := 4) (j := 5) rfl sc__law_right.nd rfl rfl (Or.inr rfl) (Or.inl rfl) (Or.inl rfl) (Or.inl rfl) rfl))
      (pss_cons (ps_set (i := 6) sc__law_right.nd rfl (Or.inl rfl) (pe_lst (pa_cons (pe_tup (pa_cons pe_str (pa_cons pe_int pa_nil))) (pa_cons (pe_tup (pa_cons pe_str (pa_cons pe_int pa_nil))) (pa_cons (pe_tup (pa_cons pe_str pa_nil)) (pa_cons (pe_tup (pa_cons pe_str (pa_cons pe_int pa_nil))) (pa_cons (pe_tup (pa_cons pe_str (pa_cons pe_int pa_nil))) (pa_cons (pe_tup (pa_cons pe_str (pa_cons pe_int pa_nil))) (pa_cons (pe_tup (pa_cons pe_str (pa_cons pe_int pa_nil))) (pa_cons (pe_tup (pa_cons pe_str (pa_cons pe_int pa_nil))) (pa_cons (pe_tup (pa_cons pe_str (pa_cons pe_int pa_nil))) (pa_cons (pe_tup (pa_cons pe_str (pa_cons pe_int pa_nil))) pa_nil))))))))))))
      (pss_cons (ps_set (i := 6) sc__law_right.nd rfl (Or.inl rfl) (pe_ifExp (pt_cmpR (k_eq (K := K) rfl hr) (pe_f c__law_roll hr (by first | decide | omega) passL (pa_cons (pv 0) (pa_cons pe_int pa_nil))) pe_int (nomark _)) (pv 6) (pe_lst pa_nil)))
      (pss_cons (ps_for PassesOwn.never rfl (pi_range1 rfl (C.free 25) (pa_cons (pe_op (k_add (K := K) rfl) pe_int (pe_f c__law_roll hr (by first | decide | omega) passL (pa_cons (pv 0) (pa_cons pe_int pa_nil)))) pa_nil)) (pg_name (i := 7) sc__law_right.nd rfl (Or.inl rfl))
      (pss_cons (ps_set (i := 8) sc__law_right.nd rfl (Or.inr rfl) (pe_ifExp (pt_cmpR (k_lt (K := K) rfl hr) (pv 7) (pe_bi (k_lenB (K := K) rfl) (C.free 31) (by decide +kernel) (pa_cons (pv 6) pa_nil)) (nomark _)) (pe_ix (k_ixB (K := K) rfl hr) (pv 6) (pv 7) (fun _ _ => rfl)) (pe_f c__law_step hr (by first | decide | omega) passL (pa_cons (pv 0) (pa_cons (pv 5) pa_nil)))))
      (pss_cons (ps_set (i := 9) sc__law_right.nd rfl (Or.inl rfl) (pe_ifExp (k_truth (K := K) rfl (pe_f c__law_work_do hr (by first | decide | omega) passL (pa_cons (pv 5) (pa_cons (pv 8) pa_nil))) (by intro _; rfl)) (pe_tup (pa_cons pe_str (pa_cons pe_non pa_nil))) (pe_tup (pa_cons pe_str (pa_cons (pe_ix (k_ixB (K := K) rfl hr) (pv 8) pe_int (fun _ _ => rfl)) pa_nil)))))
      (pss_cons (ps_if (PW.pt (pw_or (pt_cmpR (k_ne (K := K) rfl hr) (pe_refT (T := TT0) (k := 10) R_law_told TB hcode tm tu hr (by decide) (LamX.lamS_by (show LamX.lamSB (defScope s__law_right) _ = true by decide +kernel)) rfl (fun _ _ _ _ _ => rfl) (fun A outer s H E f c_ hr => (pe_me m_do hr (by first | decide | omega) (passes_call (takes_of rfl rfl rfl rfl) fun _ _ _ _ h => h) (pv 4) (pa_cons (pv 8) pa_nil)))) (pv 9) (nomark _)) (pw_or1 (pt_not (k_truth (K := K) rfl (pe_fG c__law_shows gd hr (by decide) passL (pa_cons (pv 4) (pa_cons (pv 5) pa_nil))) (by intro _; rfl)))))) (pss_one (ps_ret pe_bl)) pss_nil)
      (pss_cons (ps_if (pt_cmpR (k_ne (K := K) rfl hr) (pe_lc (own := [("at", 10)]) rfl sc__law_right.nd (pi_range1 rfl (C.free 25) (pa_cons (k_fld (K := K) rfl (pv 4)) pa_nil)) (blkOk_by (N := ["dice", "many", "together", "fenced", "work", "own", "steps", "turn", "step", "due", "at", "twin"]) (sc := defScope s__law_right) (by decide +kernel)) (fun _ _ _ _ _ => (pg_name (i := 10) sc__law_right.nd rfl (Or.inl rfl))) (fun _ _ _ _ _ => pts_one (pt_cmpR (k_ninB (K := K) rfl hr) (pv 10) (pe_pr p_results hr (by first | decide | omega) passP (pv 4)) (by rfl))) (fun _ _ _ _ _ => (pv 10))) (pe_lst pa_nil) (nomark _)) (pss_one (ps_ret pe_bl)) pss_nil)
      (pss_one (ps_if (PW.pt (pw_and (k_truth (K := K) rfl (pv 2) (by intro _; rfl)) (pw_and (k_truth (K := K) rfl (pv 3) (by intro _; rfl)) (pw_and1 (pt_cmpR (k_ne (K := K) rfl hr) (pe_pr p_results hr (by first | decide | omega) passP (pv 4)) (pe_tupRg rfl rfl (C.free 28) (prg_1 rfl (C.free 25) (k_fld (K := K) rfl (pv 4)))) (nomark _)))))) (pss_one (ps_ret pe_bl)) pss_nil)))))))
      (pss_cons (ps_set (i := 11) sc__law_right.nd rfl (Or.inl rfl) (pe_me0 m_twin hr (by first | decide | omega) passL (pv 4)))
      (pss_cons (ps_if (PW.pt (pw_or (pt_cmpR (op_ownNe m_eq own_mro own_ne hr (by first | decide | omega) passL) (pv 11) (pv 4) (nomark _)) (pw_or (pt_cmpR (op_ownEqN m_eq own_sub hr (by first | decide | omega) passL) (pv 11) pe_non (nomark _)) (pw_or1 (pt_cmpR (k_ne (K := K) rfl hr) (pe_f c_is_just_once hr (by first | decide | omega) passL (pa_cons (pv 2) (pa_cons (pv 3) pa_nil))) (pe_and (pv 2) (pe_one (pv 3))) (nomark _)))))) (pss_one (ps_ret pe_bl)) pss_nil)
      (pss_cons (ps_expr (pe_me m_do hr (by first | decide | omega) passL (pv 11) (pa_cons (pe_tup (pa_cons pe_str (pa_cons pe_int pa_nil))) pa_nil)))
      (pss_cons (ps_if (pt_cmpR (k_lt (K := K) rfl hr) (pe_pr p_newest hr (by first | decide | omega) passP (pv 4)) pe_int (nomark _)) (pss_one (ps_expr (pe_me m_do hr (by first | decide | omega) passL (pv 11) (pa_cons (pe_tup (pa_cons pe_str pa_nil)) pa_nil)))) pss_nil)
      (pss_one (ps_ret (pe_and (pe_fG c__law_shows gd hr (by decide) passL (pa_cons (pv 4) (pa_cons (pv 5) pa_nil))) (pe_and (pe_fG c__law_odd_right gd hr (by decide) passL (pa_cons (pv 0) (pa_cons (pv 4) pa_nil))) (pe_one (pe_f c__law_courses_right hr (by first | decide | omega) passL (pa_cons (pv 0) (pa_cons (pv 1) (pa_cons (pv 2) (pa_cons (pv 3) pa_nil))))))))))))))))))), ?_⟩)
  · obtain ⟨d, L, rfl, _⟩ := h
    rfl
  · obtain ⟨d, L, rfl, w0, k⟩ := h
    refine seq4_abs (fun σ H5 => ∃ (v7 v8 v9 v10 : Option V) (a p q o p' q' p6 : Addr) (mn : Int) (tg fe : Bool) (xs : List V) (ss : List Stp) (n : Nat), σ = [some (.ref d), some (.int mn), some (.bl tg), some (.bl fe), some (.ref a), some (.ref o), some (.ref p6), v7, v8, v9, v10, none] ∧ Le H H5 ∧ Wd TT0 H5 ((p6, isL xs) :: (d, isDice n) :: fW K a p q mn tg fe 0 [] [.non] (fO o p' q' mn tg fe 0 [] [.non] L)) ∧ PdA H5 xs (ss.map stpD) ∧ (∀ s ∈ ss, OkS s) ∧ 0 ≤ mn ∧ mn ≤ 100 ∧ n ≤ 10) ?_ fun N hN => ?_
    · rintro σ H5 ⟨v7, v8, v9, v10, a, p, q, o, p', q', p6, mn, tg, fe, xs, ss, n, rfl, l5, w5, hd5, oks, m0, m1, hn⟩
      have el : xs.length = ss.length := by rw [hd5.length, List.length_map]
      repeat walk_at "go"
      refine k_roll (by assumption) (by walk_at "sel") (by omega) (by omega) (by omega) fun r4 H6 hr4 l6 w6 => ?_
      repeat walk_at "go"
      refine n_1 (by omega) ?_
      obtain ⟨N0, eN, hN0⟩ : ∃ N0 : Nat, (20 + (r4 : Int)).toNat = N0 ∧ N0 ≤ 60 := ⟨_, rfl, by omega⟩
      rw [eN]
      refine f_rng (fun i σ H7 => ∃ (v7 v8 v9 v10 : Option V) (p q p' q' : Addr) (st : WS) (us us' : List V) (m : Nat), σ = [some (.ref d), some (.int mn), some (.bl tg), some (.bl fe), some (.ref a), some (.ref o), some (.ref p6), v7, v8, v9, v10, none] ∧ Le H H7 ∧ Le H5 H7 ∧ Wd TT0 H7 ((p6, isL xs) :: (d, isDice m) :: fW K a p q mn tg fe st.mrk st.rs us (fO o p' q' mn tg fe st.mrk st.rs us' L)) ∧ PdA H7 us (st.hs.map holdD) ∧ PdA H7 us' (st.hs.map holdD) ∧ WInv mn tg fe i st ∧ m ≤ 20 + 3 * i)
        ⟨_, _, _, _, p, q, p', q', ⟨0, [], [none]⟩, [.non], [.non], n + 1, rfl, by walk_at "le", by walk_at "le", by walk_at "wd", .cons .non .nil, .cons .non .nil, WInv.init m0, by omega⟩ ?_ ?_
      · rintro i σ H7 hi ⟨v7, v8, v9, v10, p, q, p', q', st, us, us', m, rfl, l7, l57, w7, hu, hu', inv, hm⟩
        rw [Int.zero_add]
        refine seq1_abs (fun σ H8 => ∃ (vs : V) (s : Stp) (m : Nat), σ = [some (.ref d), some (.int mn), some (.bl tg), some (.bl fe), some (.ref a), some (.ref o), some (.ref p6), some (.int (i : Int)), some vs, v9, v10, none] ∧ Le H H8 ∧ Le H5 H8 ∧ Le H7 H8 ∧ Wd TT0 H8 ((p6, isL xs) :: (d, isDice m) :: fW K a p q mn tg fe st.mrk st.rs us (fO o p' q' mn tg fe st.mrk st.rs us' L)) ∧ Pd H8 vs (stpD s) ∧ OkS s ∧ m ≤ 20 + 3 * (i + 1)) ?_ fun N hN => ?_
        · rintro σ H8 ⟨vs, s, m, rfl, l8, l58, l78, w8, hvs, ok, hm⟩
          refine seq2_abs (fun σ H9 => ∃ (v9 v10 : Option V) (p q p' q' : Addr) (st : WS) (us us' : List V), σ = [some (.ref d), some (.int mn), some (.bl tg), some (.bl fe), some (.ref a), some (.ref o), some (.ref p6), some (.int (i : Int)), some vs, v9, v10, none] ∧ Le H H9 ∧ Le H5 H9 ∧ Wd TT0 H9 ((p6, isL xs) :: (d, isDice m) :: fW K a p q mn tg fe st.mrk st.rs us (fO o p' q' mn tg fe st.mrk st.rs us' L)) ∧ PdA H9 us (st.hs.map holdD) ∧ PdA H9 us' (st.hs.map holdD) ∧ WInv mn tg fe (i + 1) st) ?_ fun N2 hN2 => ?_
          · rintro σ H9 ⟨v9, v10, p, q, p', q', st, us, us', rfl, l9, l59, w9, hu, hu', inv⟩
            have bn := inv.bnd m0 m1 (by omega)
            have ik1 := inv.m1
            have ik0 := inv.m0
            repeat walk_at "go"
            refine n_1 (by omega) ?_
            refine c_emN V.int walk_range y_rng (by omega) w9 (fun i ds F1 => ds = [] ∧ F1 = ((p6, isL xs) :: (d, isDice m) :: fW K a p q mn tg fe st.mrk st.rs us (fO o p' q' mn tg fe st.mrk st.rs us' L))) ⟨rfl, rfl⟩ (fun _ => rfl) (fun _ _ _ _ _ _ _ _ _ => trivial) ?_ ?_
            · rintro j x L1 ds F1 H10 qq N hj hx l10 w10 ⟨rfl, rfl⟩ hq hN
              cases hx
              repeat walk_at "go"
              refine ⟨TT0, _, a, p, q, mn, tg, fe, st.mrk, st.rs, us, rfl, w10, ⟨⟨_, by walk_at "sel"⟩, ⟨_, by walk_at "sel"⟩, ⟨_, by walk_at "sel"⟩⟩, fun t3 H11 l11 w11 h11 => ?_⟩
              repeat walk_at "go"
              refine b_nin (r_ninF h11.sq rfl flat_ints ?_)
              rw [inV_int (inv.res _ (by omega) (by omega))]
              repeat walk_at "go"
              exact hN _ _ (by walk_at "le") (by walk_at "wd") ⟨rfl, rfl⟩
            · rintro L1 ds F1 H10 l10 w10 ld ⟨rfl, rfl⟩
              repeat walk_at "go"
              refine n_neF (p := .list (dI [])) (q := .list []) (by walk_at "dp") (by walk_at "dp") (by decide +kernel) (by decide +kernel) (by decide +kernel) ?_
              repeat walk_at "go"
              have fin : ∀ {H11}, Le H10 H11 → Wd TT0 H11 ((p6, isL xs) :: (d, isDice m) :: fW K a p q mn tg fe st.mrk st.rs us (fO o p' q' mn tg fe st.mrk st.rs us' L)) → _ := fun {H11} l11 w11 => (⟨some (.int (i : Int)), some vs, v9, v10, p, q, p', q', st, us, us', m, rfl, (l9.trans l10).trans l11, (l59.trans l10).trans l11, w11, hu.le (l10.trans l11), hu'.le (l10.trans l11), inv, hm⟩ : ∃ (v7 v8 v9 v10 : Option V) (p q p' q' : Addr) (st : WS) (us us' : List V) (m : Nat), [some (V.ref d), some (.int mn), some (.bl tg), some (.bl fe), some (.ref a), some (.ref o), some (.ref p6), some (.int (i : Int)), some vs, _, _, none] = [some (.ref d), some (.int mn), some (.bl tg), some (.bl fe), some (.ref a), some (.ref o), some (.ref p6), v7, v8, v9, v10, none] ∧ Le H H11 ∧ Le H5 H11 ∧ Wd TT0 H11 ((p6, isL xs) :: (d, isDice m) :: fW K a p q mn tg fe st.mrk st.rs us (fO o p' q' mn tg fe st.mrk st.rs us' L)) ∧ PdA H11 us (st.hs.map holdD) ∧ PdA H11 us' (st.hs.map holdD) ∧ WInv mn tg fe (i + 1) st ∧ m ≤ 20 + 3 * (i + 1))
              cases tg
              · repeat walk_at "go"
                exact fin (by walk_at "le") (by walk_at "wd")
              cases fe
              · repeat walk_at "go"
                exact fin (by walk_at "le") (by walk_at "wd")
              repeat walk_at "go"
              refine ⟨TT0, _, a, p, q, mn, true, true, st.mrk, st.rs, us, rfl, by assumption, ⟨⟨_, by walk_at "sel"⟩, ⟨_, by walk_at "sel"⟩, ⟨_, by walk_at "sel"⟩⟩, fun t3 H11 l11 w11 h11 => ?_⟩
              refine r_tupRg ?_
              refine r_rg1 ?_
              repeat walk_at "go"
              refine ⟨RgOk.of_le (by decide) (by omega) (by decide) (by omega), ?_⟩
              refine n_newT (N := fun p2 H2 => rNeA K (.ref t3) (.ref p2) H2 _) w11 fun t4 H12 l12 w12 h12 => ?_
              rw [rg_upto] at h12
              refine r_neTT (ns := st.rs) (ms := upto st.mrk) (h11.le l12).sq h12.sq ?_
              rw [decide_eq_true (inv.both rfl rfl).1]
              repeat walk_at "go"
              exact fin (by walk_at "le") (by walk_at "wd")
          · have ilen := inv.len
            repeat walk_at "go"
            obtain ⟨bb, rest, rfl, tb⟩ := Pd.hd hvs
            refine ⟨TT0, _, o, p', q', mn, tg, fe, st, us', .ref bb, s, rfl, by walk_at "wd", hu'.le l78, hvs, ok, by omega, inv.h12, fun p2 q2 us2 H9 l9 w9 hu9 => ?_⟩
            cases cb : canB mn st s with
            | false =>
              rw [cb, if_neg (by decide)] at w9 hu9
              repeat walk_at "go"
              refine n_told (by assumption) fun H10 l10 w10 => ?_
              repeat walk_at "go"
              refine k_do (st := st) (us := us) (by walk_at "wd") (hu.le (by walk_at "le")) (by omega) (hvs.le (by walk_at "le")) ok (fun _ => Refuse.caught fun H11 l11 w11 => ?_) (fun z => by rw [cb] at z; cases z)
              repeat walk_at "go"
              refine n_neF (by walk_at "dp") (by walk_at "dp") (note_sh ok) (note_sh ok) note_eq ?_
              repeat walk_at "go"
              have inv' := inv.weak (Nat.le_succ i)
              refine ⟨TT0, _, a, p, q, o, p2, q2, mn, tg, fe, st, us, us2, rfl, by assumption, ⟨⟨_, by walk_at "sel"⟩, ⟨_, by walk_at "sel"⟩, ⟨_, by walk_at "sel"⟩⟩, ⟨⟨_, by walk_at "sel"⟩, ⟨_, by walk_at "sel"⟩, ⟨_, by walk_at "sel"⟩⟩, hu.le (by walk_at "le"), hu9.le (by walk_at "le"), inv'.bnd m0 m1 (by omega), fun H12 l12 w12 => ?_⟩
              repeat walk_at "go"
              exact hN2 _ _ ⟨_, _, p, q, p2, q2, st, us, us2, rfl, by walk_at "le", by walk_at "le", by walk_at "wd", hu.le (by walk_at "le"), hu9.le (by walk_at "le"), inv'⟩
            | true =>
              rw [cb, if_pos rfl] at w9 hu9
              repeat walk_at "go"
              refine n_told (by assumption) fun H10 l10 w10 => ?_
              repeat walk_at "go"
              refine k_do (st := st) (us := us) (by walk_at "wd") (hu.le (by walk_at "le")) (by omega) (hvs.le (by walk_at "le")) ok (fun z => by rw [cb] at z; cases z) (fun _ us1 H11 l11 w11 hu11 => ?_)
              repeat walk_at "go"
              refine n_neF (by walk_at "dp") (by walk_at "dp") (by decide +kernel) (by decide +kernel) (by decide +kernel) ?_
              repeat walk_at "go"
              have inv' := inv.step ok cb
              refine ⟨TT0, _, a, p, q, o, p2, q2, mn, tg, fe, nxtB tg fe st s, us1, us2, rfl, by assumption, ⟨⟨_, by walk_at "sel"⟩, ⟨_, by walk_at "sel"⟩, ⟨_, by walk_at "sel"⟩⟩, ⟨⟨_, by walk_at "sel"⟩, ⟨_, by walk_at "sel"⟩, ⟨_, by walk_at "sel"⟩⟩, hu11.le (by walk_at "le"), hu9.le (by walk_at "le"), inv'.bnd m0 m1 (by omega), fun H12 l12 w12 => ?_⟩
              repeat walk_at "go"
              exact hN2 _ _ ⟨_, _, p, q, p2, q2, _, us1, us2, rfl, by walk_at "le", by walk_at "le", by walk_at "wd", hu11.le (by walk_at "le"), hu9.le (by walk_at "le"), inv'⟩
        · have hl' : us'.length = st.hs.length := by rw [hu'.length, List.length_map]
          have b1 := inv.h1
          have b2 := inv.h12
          repeat walk_at "go"
          by_cases c : i < xs.length
          · refine r_T (decide_eq_true (by omega)) ?_
            repeat walk_at "go"
            have hx : xs[i]? = some xs[i] := List.getElem?_eq_getElem c
            obtain ⟨dd, hdd, hpd⟩ := hd5.get hx
            rw [List.getElem?_map] at hdd
            obtain ⟨s, hs, rfl⟩ : ∃ s, ss[i]? = some s ∧ stpD s = dd := by
              cases e : ss[i]? with
              | none => rw [e] at hdd; cases hdd
              | some s => rw [e] at hdd; exact ⟨s, rfl, Option.some.inj hdd⟩
            refine b_ixN (by assumption) (by walk_at "sel") hx ?_
            repeat walk_at "go"
            exact hN _ _ ⟨_, s, _, rfl, l7, l57, Le.refl _, by walk_at "wd", hpd.le l57, oks s (List.mem_of_getElem? hs), by omega⟩
          · refine r_F (decide_eq_false (by omega)) ?_
            repeat walk_at "go"
            refine k_lstep (by assumption) (by walk_at "sel") (by walk_at "sel") (by walk_at "sel") (by omega) (by omega) (by omega) fun v0 s0 m2 H8 l8 w8 hm2 hv0 ok0 => ?_
            repeat walk_at "go"
            exact hN _ _ ⟨_, s0, _, rfl, l7.trans l8, l57.trans l8, l8, by walk_at "wd", hv0, ok0, by omega⟩
      · rintro σ H7 ⟨v7, v8, v9, v10, p, q, p', q', st, us, us', m, rfl, l7, l57, w7, hu, hu', inv, hm⟩
        have bn := inv.bnd m0 m1 (by omega)
        have ilen := inv.len
        have ih1 := inv.h1
        have ih12 := inv.h12
        have elu : us.length = st.hs.length := by rw [hu.length, List.length_map]
        repeat walk_at "go"
        refine k_twin (by assumption) ⟨⟨_, by walk_at "sel"⟩, ⟨_, by walk_at "sel"⟩, ⟨_, by walk_at "sel"⟩⟩ m0 m1 fun b pb qb H8 l8 w8 => ?_
        repeat walk_at "go"
        refine k_own (st := st) (st' := st) (by assumption) ⟨⟨_, by walk_at "sel"⟩, ⟨_, by walk_at "sel"⟩, ⟨_, by walk_at "sel"⟩⟩ ⟨⟨_, by walk_at "sel"⟩, ⟨_, by walk_at "sel"⟩, ⟨_, by walk_at "sel"⟩⟩ (hu.le l8) (hu.le l8) bn bn fun H9 l9 w9 => ?_
        refine ⟨_, rfl, ?_⟩
        rw [decide_eq_true (show mn = mn ∧ tg = tg ∧ fe = fe ∧ st.mrk = st.mrk ∧ st.rs = st.rs ∧ st.hs = st.hs from ⟨rfl, rfl, rfl, rfl, rfl, rfl⟩)]
        repeat walk_at "go"
        refine ⟨b, _, _, rfl, rfl, (w9.ins .head).choose_spec, .inr ⟨b, rfl, _, rfl, ?_⟩⟩
        repeat walk_at "go"
        refine ⟨TT0, _, .bl tg, .bl fe, "bool", "bool", rfl, w9, .bl _, .bl _, (fun e => nomatch e), (fun _ e => nomatch e), fun tg' fe' e1 e2 => ?_⟩
        cases e1
        cases e2
        have same : ∀ {Q' : VK}, (∀ r : Bool, r = (tg && fe) → Q' (.bl r) H9) → Q' (.bl (tg && fe)) H9 := fun h => h _ rfl
        refine and_var (i := 2) (j := 3) (a := tg) (b := fe) rfl rfl ?_
        refine n_neB ?_
        rw [decide_eq_true (show (tg && fe) = (tg && fe) from rfl)]
        repeat walk_at "go"
        have hb0 : st.hs[0]? = some (st.hs[0]'(by omega)) := List.getElem?_eq_getElem (by omega)
        have cb0 : canB mn st (.on "drop" 0) = true := by
          rw [canB_on hb0]
          unfold canH
          rw [if_neg (by decide +kernel), if_pos rfl]
        have okd : OkS (.on "drop" 0) := ok_of (by decide +kernel) (by decide)
        refine k_do (st := st) (us := us) (s := .on "drop" 0) (by walk_at "wd") (hu.le (by walk_at "le")) (by omega) (by show Pd _ _ (.tuple [.str "drop", .int 0]); walk_at "pd") okd (fun z => by rw [cb0] at z; cases z) (fun _ us1 H11 l11 w11 hu11 => ?_)
        rw [nxtB_drop (by decide +kernel) rfl] at w11 hu11
        repeat walk_at "go"
        refine ⟨TT0, _, a, p, q, mn, tg, fe, st.mrk, st.rs, us, rfl, by assumption, ⟨⟨_, by walk_at "sel"⟩, ⟨_, by walk_at "sel"⟩, ⟨_, by walk_at "sel"⟩⟩, ?_⟩
        repeat walk_at "go"
        by_cases c : us.length < 12
        · refine r_T (decide_eq_true (by omega)) ?_
          repeat walk_at "go"
          refine k_do (st := { st with hs := st.hs.set 0 none }) (us := us1) (s := .nxt) (by walk_at "wd") (hu11.le (by walk_at "le")) (by show st.rs.length < 1000000; omega) (by show Pd _ _ (.tuple [.str "next"]); walk_at "pd") trivial (fun z => ?_) (fun _ us2 H12 l12 w12 hu12 => ?_)
          · have z : decide ((st.hs.set 0 none).length < 12) = false := z
            rw [List.length_set, decide_eq_true (by omega)] at z
            cases z
          repeat walk_at "go"
          refine ⟨TT0, _, a, p, q, o, p', q', mn, tg, fe, st, us, us', rfl, by assumption, ⟨⟨_, by walk_at "sel"⟩, ⟨_, by walk_at "sel"⟩, ⟨_, by walk_at "sel"⟩⟩, ⟨⟨_, by walk_at "sel"⟩, ⟨_, by walk_at "sel"⟩, ⟨_, by walk_at "sel"⟩⟩, hu.le (by walk_at "le"), hu'.le (by walk_at "le"), bn, fun H20 l20 w20 => ?_⟩
          repeat walk_at "go"
          refine ⟨_, d, a, p, q, m, mn, tg, fe, st, us, rfl, by walk_at "wd", hu.le (by walk_at "le"), bn, by omega, fun H21 l21 w21 => ?_⟩
          repeat walk_at "go"
          refine ⟨TT0, _, d, _, mn, tg, fe, rfl, by walk_at "wd", by omega, m0, m1, fun m' H22 l22 w22 => ?_⟩
          repeat walk_at "go"
          exact k _ _ (by walk_at "le") (by walk_at "wd")
        · refine r_F (decide_eq_false (by omega)) ?_
          repeat walk_at "go"
          refine ⟨TT0, _, a, p, q, o, p', q', mn, tg, fe, st, us, us', rfl, by assumption, ⟨⟨_, by walk_at "sel"⟩, ⟨_, by walk_at "sel"⟩, ⟨_, by walk_at "sel"⟩⟩, ⟨⟨_, by walk_at "sel"⟩, ⟨_, by walk_at "sel"⟩, ⟨_, by walk_at "sel"⟩⟩, hu.le (by walk_at "le"), hu'.le (by walk_at "le"), bn, fun H20 l20 w20 => ?_⟩
          repeat walk_at "go"
          refine ⟨_, d, a, p, q, m, mn, tg, fe, st, us, rfl, by walk_at "wd", hu.le (by walk_at "le"), bn, by omega, fun H21 l21 w21 => ?_⟩
          repeat walk_at "go"
          refine ⟨TT0, _, d, _, mn, tg, fe, rfl, by walk_at "wd", by omega, m0, m1, fun m' H22 l22 w22 => ?_⟩
          repeat walk_at "go"
          exact k _ _ (by walk_at "le") (by walk_at "wd")
    · refine r_par3 ?_
      repeat walk_at "go"
      refine k_pickL (by assumption) (by walk_at "sel") (by walk_at "sel") (by omega) (by simp) (by simp) fun mv H1 hmv l1 w1 => ?_
      obtain ⟨mn, rfl, m0, m1⟩ : ∃ mn : Int, mv = .int mn ∧ 0 ≤ mn ∧ mn ≤ 100 := by
        simp only [List.mem_cons, List.not_mem_nil, or_false] at hmv
        rcases hmv with rfl | rfl | rfl | rfl | rfl | rfl <;> exact ⟨_, rfl, by decide, by decide⟩
      repeat walk_at "go"
      refine k_roll (by assumption) (by walk_at "sel") (by omega) (by omega) (by omega) fun r1 H2 hr1 l2 w2 => ?_
      repeat walk_at "go"
      refine k_roll (by assumption) (by walk_at "sel") (by omega) (by omega) (by omega) fun r2 H3 hr2 l3 w3 => ?_
      repeat walk_at "go"
      refine ⟨_, _, _, rfl, ?_⟩
      generalize decide ((r1 : Int) = 0) = tg
      generalize decide ((r2 : Int) = 0) = fe
      repeat walk_at "go"
      refine k_init (by assumption) m0 m1 fun p q H4 l4 w4 => ?_
      refine ⟨rfl, ?_⟩
      repeat walk_at "go"
      refine ⟨TT0, _, mn, tg, fe, rfl, by assumption, fun o p' q' H5 l5 w5 => ?_⟩
      repeat walk_at "go"
      refine k_roll (by assumption) (by walk_at "sel") (by omega) (by omega) (by omega) fun r3 H6 hr3 l6 w6 => ?_
      repeat walk_at "go"
      by_cases c : (r3 : Int) = 0
      · refine r_T (decide_eq_true c) ?_
        repeat walk_at "go"
        refine hN _ _ ⟨_, _, _, _, _, p, q, o, p', q', _, mn, tg, fe, _, st10, _, rfl, by walk_at "le", by walk_at "wdD", ?_, st10_ok, m0, m1, by decide⟩
        show PdA _ _ [.tuple [.str "take", .int 0], .tuple [.str "write", .int 0], .tuple [.str "next"], .tuple [.str "take", .int 1], .tuple [.str "write", .int 1], .tuple [.str "mark", .int 1], .tuple [.str "take", .int 1], .tuple [.str "write", .int 1], .tuple [.str "mark", .int 1], .tuple [.str "mark", .int 0]]
        walk_at "pda"
      · refine r_F (decide_eq_false c) ?_
        repeat walk_at "go"
        exact hN _ _ ⟨_, _, _, _, _, p, q, o, p', q', _, mn, tg, fe, [], [], _, rfl, by walk_at "le", by walk_at "wdD", .nil, (fun s hs => nomatch hs), m0, m1, by decide⟩
end
end K82

local macro_rules | `(tactic| walk_at "wdD") => `(tactic| ((with_reducible apply Wd.pk); (with_reducible assumption); walk_at "pkD"))
local macro_rules | `(tactic| walk_at "ws") => `(tactic| (with_reducible assumption; walk_at "sel"))
local macro_rules | `(tactic| walk_at "nd") => `(tactic| (refine of_decide_eq_true ?_; with_unfolding_all rfl))
local macro_rules | `(tactic| walk_at "lk") => `(tactic| with_unfolding_all rfl)

namespace K82
section
variable {P : Program} {w : World} {K : PySem.W.Frag} {mg : Str → Option Value} {base : Heap} {T : List (Addr × Str)} {H : Hp} {L F R : List En} {E : XK} {Q : VK}
abbrev s_law : Stmt := top 34
theorem sc_law : FnScope ["script", "spot"] ["script"] (defScope s_law) := ⟨rfl, rfl, rfl, by decide +kernel, rfl, by decide +kernel, by decide +kernel⟩
def sp_law (K : PySem.W.Frag) (TT0 : List (Addr × Str)) : Sp := fun vs H Q _ => ∃ (a : Addr) (ns : List Int) (L : List En), vs = [.ref a] ∧ ns.length ≤ 63 ∧ Wd TT0 H L ∧ (∀ H', Wd TT0 H' L → SqL K H' a (ns.map V.int)) ∧ ∀ H', Q (.bl true) H'
theorem ok_law {f0 : Addr} {fd0 : FuncData} (F : FunD K "law" "law" (defArgs s_law) (defBody s_law) (defScope s_law) [] [] f0 fd0) (C : Cx0 K mg base) (wd : He.tupB K "WORDS" [.str "take", .str "write", .str "mark", .str "drop"] = true) (o_BadArgument : OBad P w K mg base) (o_NotPossible : ONot P w K mg base) (xN : PySem.W.exmOne K (.ref (cNot0 K)) (.ref (cBad0 K)) = some false) (kitN : PySem.W.kitOne K (.type "NoneType") (.ref (CW K)) = some false) (own_sub : PySem.W.subIn K (.type "NoneType") (.ref (CW K)) = some false) (own_mro : PySem.W.mroIn K (CW K) (.type "object") = some true) (own_ne : PySem.W.findIn K (.ref (CW K)) "__ne__" = some (some (.builtin "object.__ne__"))) {TT0 : List (Addr × Str)} {Pa Pb : Addr} (TBa : LamX.TabB base mg (He.codeOf K ("_law_odd_right", none)) Pa) (tma : (Pa, ("_law_odd_right.<locals>.<lambda>" : Str)) ∈ TT0) (tua : ∀ p ∈ TT0, p.1 = Pa → p.2 = "_law_odd_right.<locals>.<lambda>") (TB : LamX.TabB base mg (He.codeOf K ("_law_right", none)) Pb) (tm : (Pb, Q1) ∈ TT0) (tu : ∀ p ∈ TT0, p.1 = Pb → p.2 = Q1) : FnG P w K mg base 18 f0 fd0 ["script"] (sp_law K TT0) := by
  have c__law_right := ok__law_right (P := P) (w := w) C wd o_BadArgument o_NotPossible xN kitN own_sub own_mro own_ne TBa tma tua TB tm tu
  have c__law_dice := ok__law_dice (P := P) (w := w) C
  refine fnG_of F sc_law (fun vs H Q E h => ?_) (fun cdv A outer s H vs Q E gd hr h => ⟨_, PSs.nox
    (pss_cons (ps_for PassesOwn.never rfl (pi_range1 rfl (C.free 25) (pa_cons (pe_bi (cr_max2 rfl) (C.free 24) (by decide +kernel) (pa_cons pe_int (pa_cons (pe_bi (cr_min2 rfl) (C.free 33) (by decide +kernel) (pa_cons pe_int (pa_cons (pe_bi (k_len (K := K) rfl) (C.free 31) (by decide +kernel) (pa_cons (pv 0) pa_nil)) pa_nil))) pa_nil))) pa_nil)) (pg_name (i := 1) sc_law.nd rfl (Or.inl rfl))
      (pss_one (ps_if (pt_not (k_truth (K := K) rfl (pe_fG c__law_right gd hr (by decide) passL (pa_cons (pe_f c__law_dice hr (by first | decide | omega) passL (pa_cons (pv 0) (pa_cons (pv 1) pa_nil))) pa_nil)) (by intro _; rfl))) (pss_one (ps_ret pe_bl)) pss_nil)))
      (pss_one (ps_ret pe_bl))), ?_⟩)
  · obtain ⟨a, ns, L, rfl, _⟩ := h
    rfl
  · obtain ⟨a, ns, L, rfl, hn, w0, hs, k⟩ := h
    repeat walk_at "go"
    refine r_lenLI (hs _ w0) ?_
    repeat walk_at "go"
    obtain ⟨n, en⟩ : ∃ n : Nat, max 1 (min 4 (ns.length : Int)) = n := ⟨(max 1 (min 4 (ns.length : Int))).toNat, by omega⟩
    rw [en]
    have n4 : n ≤ 63 := by omega
    refine n_1 (by omega) ?_
    rw [Int.toNat_natCast]
    refine f_rng (fun i σ H' => ∃ x1 : Option V, σ = [some (.ref a), x1] ∧ Wd TT0 H' L) ⟨_, rfl, w0⟩ ?_ ?_
    · rintro i σ H1 hi ⟨x1, rfl, w1⟩
      rw [Int.zero_add]
      repeat walk_at "go"
      refine ⟨a, ns, _, rfl, hs _ w1, by omega, by omega, by omega, fun d H2 e2 f2 d2 => ?_⟩
      refine ⟨d, _, rfl, (w1.ex e2).cons (w1.fresh f2) (isDice.of d2), fun n' H3 l3 w3 => ?_⟩
      repeat walk_at "go"
      exact ⟨_, rfl, w3.tail⟩
    · rintro σ H1 ⟨x1, rfl, w1⟩
      repeat walk_at "go"
      exact k _

end
section
variable {w : World} {h : Heap} {K : PySem.W.Frag} {mg : Str → Option Value} {base : Heap}
abbrev PP : Program := PySem.Challenge.pw_promisedpost_k82_whole_works
def TT (K : PySem.W.Frag) : List (Addr × Str) := [((He.cT K ("_law_odd_right", none)).2, "_law_odd_right.<locals>.<lambda>"), ((He.cT K ("_law_right", none)).2, "_law_right.<locals>.<lambda>")]
theorem ex_ini (K : PySem.W.Frag) (e : ex K = true) : ini.all (iniB PP K) = true ∧ (pd.all (prpB K) = true ∧ oc.all (insB K) = true) ∧ decide ((tf.map fun t => (He.cT K t).2).Nodup) = true := by
  unfold ex at e
  rw [Bool.and_eq_true, Bool.and_eq_true, Bool.and_eq_true, Bool.and_eq_true] at e
  exact ⟨e.1.1, e.1.2, e.2.1⟩
theorem ex_more (K : PySem.W.Frag) (e : ex K = true) : exM K = true := by
  unfold ex at e
  exact (Bool.and_eq_true_iff.mp (Bool.and_eq_true_iff.mp e).2).2
theorem hex (K : PySem.W.Frag) (d : IniD) (e : ex K = true) (m : d ∈ ini) : iniB PP K d = true := List.all_eq_true.mp (ex_ini K e).1 d m
theorem hexP (K : PySem.W.Frag) (d : PrpD) (e : ex K = true) (m : d ∈ pd) : prpB K d = true := List.all_eq_true.mp (ex_ini K e).2.1.1 d m
theorem own_ok (K : PySem.W.Frag) (e : ex K = true) : ∀ x ∈ oc, OwnC K x := fun x m => insB_ok (List.all_eq_true.mp (ex_ini K e).2.1.2 x m)
theorem tt_nd (K : PySem.W.Frag) (e : ex K = true) : ((TT K).map Prod.fst).Nodup := of_decide_eq_true (ex_ini K e).2.2
theorem tt_mem (K : PySem.W.Frag) : ∀ q ∈ TT K, ∃ t ∈ tf, q.1 = (He.cT K t).2 := fun q hq => by
  unfold TT at hq
  simp only [List.mem_cons, List.not_mem_nil, or_false] at hq
  rcases hq with rfl | rfl
  · exact ⟨("_law_odd_right", none), List.mem_cons_self, rfl⟩
  · exact ⟨("_law_right", none), (List.mem_cons_of_mem _ List.mem_cons_self), rfl⟩
abbrev iBadArgument : IniD := ⟨"BadArgument", "name", defArgs (inn 2 0), defBody (inn 2 0), defScope (inn 2 0)⟩
theorem own_BadArgument (ci : SaysI fa fn [] tf ini ex w h K) (C : Ct fa fn K mg base) : Own PP w K mg base 1 "BadArgument" "name" :=
  own_of (d := iBadArgument) (ci.iniF hex 0) C.kin C.glob ⟨rfl, rfl, rfl, by decide +kernel, rfl, rfl, rfl, rfl, by decide⟩ rfl rfl rfl (by decide) (fun _ => rfl) (fun _ => rfl) (fun _ => rfl) (fun _ _ _ _ _ _ _ us hl => match us, hl with | [_, _], _ => rfl)
abbrev iNotPossible : IniD := ⟨"NotPossible", "word", defArgs (inn 3 0), defBody (inn 3 0), defScope (inn 3 0)⟩
theorem own_NotPossible (ci : SaysI fa fn [] tf ini ex w h K) (C : Ct fa fn K mg base) : Own PP w K mg base 1 "NotPossible" "word" :=
  own_of (d := iNotPossible) (ci.iniF hex 1) C.kin C.glob ⟨rfl, rfl, rfl, by decide +kernel, rfl, rfl, rfl, rfl, by decide⟩ rfl rfl rfl (by decide) (fun _ => rfl) (fun _ => rfl) (fun _ => rfl) (fun _ _ _ _ _ _ _ us hl => match us, hl with | [_, _], _ => rfl)

theorem law_ok (ci : SaysJ fa fn [] tf ini pd ex w h K) {f0 : Addr} {fd0 : FuncData} (F : FunD K "law" "law" (defArgs s_law) (defBody s_law) (defScope s_law) [] [] f0 fd0) (C : Cx0 K mg base) (TB : ∀ t ∈ tf, LamX.TabB base mg (He.cT K t).1 (He.cT K t).2) (tu : ∀ {P : Addr} {q : Str}, (P, q) ∈ TT K → ∀ p ∈ TT K, p.1 = P → p.2 = q) :
    FnG PP w K mg base 18 f0 fd0 ["script"] (sp_law K (TT K)) := by
  have e := ex_more K ci.i.x.more
  unfold exM at e
  rw [Bool.and_eq_true, Bool.and_eq_true, Bool.and_eq_true, decide_eq_true_iff, decide_eq_true_iff, decide_eq_true_iff] at e
  have o := C.own "Work" List.mem_cons_self
  have m1 : (((He.cT K ("_law_odd_right", none)).2, ("_law_odd_right.<locals>.<lambda>" : Str)) ∈ TT K) := List.mem_cons_self
  have m2 : (((He.cT K ("_law_right", none)).2, Q1) ∈ TT K) := List.mem_cons_of_mem _ List.mem_cons_self
  exact ok_law F C e.2.2.2 (own_BadArgument ci.i C.toCt) (own_NotPossible ci.i C.toCt) e.1 e.2.1 e.2.2.1 o.hm o.ne (TB ("_law_odd_right", none) List.mem_cons_self) m1 (tu m1) (TB ("_law_right", none) (List.mem_cons_of_mem _ List.mem_cons_self)) m2 (tu m2)
end
end K82

end

section
open PySem PySem.Spec PyProof.Rows PB
open L2
theorem K82.law_at {w : World} {h : Heap} {mg : Str → Option Value} {fa : Addr} (Y : K82.hk.says w h) (G : h.Ns mainGlobals mg) (hmg : mg ("law" : Str) = some (.ref fa)) : ∃ K : PySem.W.Frag, K.In h ∧ LawG PySem.Challenge.rw_promisedpost_k82_whole_works w K 18 63 "script" mg fa h := by
  obtain ⟨K, KX, ci⟩ := Y
  have c : He.SaysD K82.fa K82.fn K := ci.i.x.t.d
  obtain ⟨fd, F⟩ := c.def_ 21 (d := K82.dd "law" 34) rfl
  have e := hmg.symm.trans (He.glo_ok KX G (c.fact 21 (f := .glo "law") rfl))
  cases e
  have b := L2.FunD.bindsA (ps := ["script"]) F fun _ _ _ _ _ _ us hl => match us, hl with | [_], _ => rfl
  have mm : ∀ p ∈ K82.tf.map (He.cT K), ∃ t ∈ K82.tf, He.cT K t = p := fun p hp => List.mem_map.mp hp
  have nd : ((K82.TT K).map Prod.fst).Nodup := K82.tt_nd K ci.i.x.more
  refine ⟨K, KX, fd, K82.tf.map (He.cT K), K82.sp_law K (K82.TT K), (fun p hp => by obtain ⟨t, ht, rfl⟩ := mm p hp; exact ci.i.x.empty _ ht), (fun p hp => by obtain ⟨t, ht, rfl⟩ := mm p hp; exact ci.i.x.out _ ht), (fun p hp => by obtain ⟨t, ht, rfl⟩ := mm p hp; exact PySem.W.codeHd_of_K KX (ci.i.x.hd _ ht)), fun s u => b s [u] rfl, fun H a ns hl _ ht hS => ?_,
    fun base h1 h2 h3 => ?_⟩
  · have tabs : LamX.Tabs (K82.TT K) H := fun q hq => by
      obtain ⟨t, ht', e⟩ := K82.tt_mem K q hq
      have := ht _ (List.mem_map_of_mem (f := He.cT K) ht')
      rw [← e] at this
      exact LamX.TabS.nil this
    obtain ⟨L, wL, hL⟩ := scr_of tabs hS
    exact ⟨a, ns, L, rfl, hl, wL, hL, fun _ => rfl⟩
  · exact K82.law_ok ci F ⟨⟨c, h1, h2⟩, fun i d hd => ci.prpF K82.hexP i hd, K82.own_ok K ci.i.x.more⟩ (fun t ht => h3 _ (List.mem_map_of_mem (f := He.cT K) ht)) (tab_u nd)
end
open PySem PySem.W PySem.Calls PyProof.Rows
theorem PySem.Challenge.cw_promisedpost_k82_whole_works_holds : PySem.Challenge.rw_promisedpost_k82_whole_works.Holds := by
  w_on; o_law
  refine HandSHeadRun.head_any (r := OpenLaw.row PySem.Challenge.rw_promisedpost_k82_whole_works) (q := view (OpenLaw.row PySem.Challenge.rw_promisedpost_k82_whole_works).prog [34]) (H := K82.hk) (ob := K82.ob) (M := 4000) (loose := K82.names) (d := HandSHeadRun.topDef (OpenLaw.row PySem.Challenge.rw_promisedpost_k82_whole_works).prog 34) (kwd := []) K82.ob_eq
    (by kernel_rfl) (fun s => by kernel_rfl) K82.run (by kernel_rfl) (by kernel_rfl) (by kernel_rfl) (by rfl) (by first | assumption | decide +kernel) (by decide +kernel) ⟨rfl, rfl, rfl, rfl, rfl, by decide +kernel⟩ ?hw ?hc
  case hw => w_witness2
  case hc =>
    refine PB.walk_G (l := PySem.Challenge.rw_promisedpost_k82_whole_works) (n := 63) (k := 18) (x := "script") rfl (by decide) (by kernel_rfl) ⟨rfl, by decide, by decide⟩ ?F
    intro w mg fa h Y G hmg0
    refine K82.law_at Y G ?_
    have e : (HandSHeadRun.topDef (OpenLaw.row PySem.Challenge.rw_promisedpost_k82_whole_works).prog 34).name = ("law" : PySem.Str) := by kernel_rfl
    rw [← e]
    exact hmg0
