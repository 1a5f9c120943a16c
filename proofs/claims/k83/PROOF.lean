import PyProof.Rows.All
import Wide.All
import OpenK.AllK
import Wide.FinOn
import KE.KStateDown
import HandS.ForMost
import HandS.ForExc
import HandS.Words
import HandS.WordsExc
import HandS.Defaults
import HandS.Zip
import HandS.TupLe
import HandS.Deep
import HandS.Conv
import HandS.SortInts
import HandS.IsInst
import HandS.Flow
import HandS.Style
import HandS.Head0
import HandS.Head1
import HandS.Head2
import HandS.HeadHook4
import HandS.HeadWalk
import KE.DataCmp
import KE.GoesNew
import KE.KTupSum
import HandS.TupAny
import HandS.TupMul
import PyProof.TupleOfSeq
import KE.GoesMore
import KE.GoesEnum
import HandS.Walk
import KE.SortData
import HandS.EndTab
import HandS.Lambda
import PyProof.ReprRoads
import HandS.ExcInit
import HandS.ExcField
import KE.KExcSuper
import KE.KSuper
import HandS.TryOnly
import HandS.ExcIs
import KE.GoesZip
import KE.KDictZip
import KE.DataMinMax
import PyProof.StrOps2
import HandS.Codes
import HandS.Property
import HandS.MakeKwOnly
import PyProof.InstNe
import Lean
import PySem.Challenge.RW_promisedpost_k83_whole_mirrors
set_option Elab.async false
set_option linter.all false
set_option maxRecDepth 100000
set_option maxHeartbeats 0
/-! PB: readings in small steps (r_..), rules for any kind of operand, calls bundled. -/
namespace PB
open PySem PySem.Spec L2
open PyProof.Rows hiding St

/-! ### heaps -/
/-- all that stood stands -/
abbrev Ex (H H' : Hp) : Prop := ∀ a o, H a = some o → H' a = some o
theorem Ex.refl (H : Hp) : Ex H H := fun _ _ h => h
theorem Ex.trans {A B C : Hp} (a : Ex A B) (b : Ex B C) : Ex A C := fun x o h => b x o (a x o h)
theorem Ex.new {H : Hp} {p : Addr} {o : HO} (h : H p = none) : Ex H (upd H p o) := fun a u e => (upd_ne (ne_of_none e h)).trans e
theorem Ex.add {H H' : Hp} {p : Addr} {o : HO} (e : Ex H H') (h : H' p = none) : Ex H (upd H' p o) := e.trans (Ex.new h)
theorem Ex.free {H H' : Hp} (e : Ex H H') {p : Addr} (h : H' p = none) : H p = none := by
  cases q : H p with
  | none => rfl
  | some o =>
    have z := e p o q
    rw [h] at z
    cases z
/-- all that stood stands, but what stands at d -/
def ExB (d : Addr) (H H' : Hp) : Prop := ∀ a o, a ≠ d → H a = some o → H' a = some o
theorem ExB.refl (d : Addr) (H : Hp) : ExB d H H := fun _ _ _ h => h
theorem ExB.of {d : Addr} {H H' : Hp} (e : Ex H H') : ExB d H H' := fun a o _ h => e a o h
theorem ExB.trans {d : Addr} {A B C : Hp} (a : ExB d A B) (b : ExB d B C) : ExB d A C := fun x o n h => b x o n (a x o n h)
theorem ExB.put {d : Addr} {H : Hp} {o : HO} : ExB d H (upd H d o) := fun a u n e => (upd_ne n).trans e
theorem Ex.sqL {K : PySem.W.Frag} {H H' : Hp} {a : Addr} {xs : List V} (e : Ex H H') (h : SqL K H a xs) : SqL K H' a xs := Same.seq e h
theorem Ex.sqT {K : PySem.W.Frag} {H H' : Hp} {a : Addr} {xs : List V} (e : Ex H H') (h : SqT K H a xs) : SqT K H' a xs := by
  rcases h with (h | ⟨o, h⟩) | h
  · exact .inl (.inl (e _ _ h))
  · exact .inl (.inr ⟨o, e _ _ h⟩)
  · exact .inr h

/-! ### readings, step by step -/
section
variable {σ : St} {H : Hp} {Q : VK} {D : Ends} {ta tb te tc : TE} {tt tu : TT} {t u : TS} {x y v : V} {K : PySem.W.Frag}
theorem r_var {i : Nat} (h : σ[i]? = some (some v)) (q : Q v H) : tVar i σ H Q := ⟨v, h, q⟩
theorem r_c (q : Q v H) : tC v σ H Q := q
theorem r_op {r : R2} (h : ta σ H fun x H1 => tb σ H1 fun y H2 => r x y H2 Q) : tOp r ta tb σ H Q := h
theorem r_un {r : V → Hp → VK → Prop} (h : ta σ H fun x H1 => r x H1 Q) : tUn r ta σ H Q := h
theorem r_U {g : Int → V} {i : Int} (q : Q (g i) H) : rU g (.int i) H Q := ⟨i, rfl, q⟩
theorem r_I0 {g : Int → Int → V} {i j : Int} (q : Q (g i j) H) : rI0 g (.int i) (.int j) H Q := ⟨i, j, rfl, rfl, q⟩
theorem r_I {C : Int → Int → Prop} {g : Int → Int → V} {i j : Int} (c : C i j) (q : Q (g i j) H) : rI C g (.int i) (.int j) H Q := ⟨i, j, rfl, rfl, c, q⟩
theorem r_test {Q : Bool → Hp → Prop} (h : te σ H fun x H1 => ∃ k, x = .bl k ∧ Q k H1) : tTest te σ H Q := h
theorem r_B {Q : Bool → Hp → Prop} (h : te σ H fun x H1 => ∃ k, x = .bl k ∧ Q k H1) : tB te σ H Q := h
theorem r_bl {P : Bool → Prop} {b : Bool} (h : P b) : ∃ k, V.bl b = V.bl k ∧ P k := ⟨b, rfl, h⟩
theorem r_not {Q : Bool → Hp → Prop} (h : tt σ H fun c H1 => Q (!c) H1) : tNot tt σ H Q := h
theorem r_and {Q : Bool → Hp → Prop} (h : tt σ H fun c H1 => if c = true then tu σ H1 Q else Q false H1) : tAnd tt tu σ H Q := h
theorem r_or {Q : Bool → Hp → Prop} (h : tt σ H fun c H1 => if c = true then Q true H1 else tu σ H1 Q) : tOr tt tu σ H Q := h
theorem r_andV (h : ta σ H fun x H1 => ∃ c, x = .bl c ∧ if c = true then tb σ H1 Q else Q (.bl false) H1) : tAndV ta tb σ H Q := h
theorem r_orV (h : ta σ H fun x H1 => ∃ c, x = .bl c ∧ if c = true then Q (.bl true) H1 else tb σ H1 Q) : tOrV ta tb σ H Q := h
theorem r_notV (h : ta σ H fun x H1 => ∃ c, x = .bl c ∧ Q (.bl (!c)) H1) : tNotV ta σ H Q := h
theorem r_if (h : tt σ H fun c H1 => if c = true then ta σ H1 Q else tb σ H1 Q) : tIf tt ta tb σ H Q := h
theorem r_chain {r r' : R2} (h : ta σ H fun x H1 => tb σ H1 fun y H2 => r x y H2 fun z H3 => ∃ k, z = .bl k ∧ (if k = true then tc σ H3 fun w' H4 => r' y w' H4 Q else Q (.bl false) H3)) : tChain r r' ta tb tc σ H Q := h
theorem r_T {A B : Prop} {b : Bool} (e : b = true) (h : A) : if b = true then A else B := by
  rw [if_pos e]; exact h
theorem r_F {A B : Prop} {b : Bool} (e : b = false) (h : B) : if b = true then A else B := by
  rw [if_neg (by rw [e]; decide)]; exact h
theorem r_D {A B p : Prop} [Decidable p] (h1 : p → A) (h2 : ¬ p → B) : if decide p = true then A else B := by
  by_cases c : p
  · exact r_T (decide_eq_true c) (h1 c)
  · exact r_F (decide_eq_false c) (h2 c)
theorem r_ND {A B p : Prop} [Decidable p] (h1 : ¬ p → A) (h2 : p → B) : if (!decide p) = true then A else B := by
  by_cases c : p
  · exact r_F (by rw [decide_eq_true c]; rfl) (h2 c)
  · exact r_T (by rw [decide_eq_false c]; rfl) (h1 c)
theorem r_C {A B : Prop} {b : Bool} (h1 : b = true → A) (h2 : b = false → B) : if b = true then A else B := by
  cases b with
  | true => exact r_T rfl (h1 rfl)
  | false => exact r_F rfl (h2 rfl)
theorem r_truB {P : Bool → Prop} {b : Bool} (h : P b) : ∃ k, TruV K (.bl b) H k ∧ P k := ⟨b, rfl, h⟩
theorem r_eq (s : scal x y = true) (q : Q (.bl (decide (x = y))) H) : rEq x y H Q := ⟨s, q⟩
theorem r_ne (s : scal x y = true) (q : Q (.bl (!decide (x = y))) H) : rNe x y H Q := ⟨s, q⟩
/-! statements -/
theorem r_seq (h : t { D with nx := u D } σ H) : tSeq t u D σ H := h
theorem r_next (h : D.nx σ H) : tNext D σ H := h
theorem r_brk (h : D.bk σ H) : tBreak D σ H := h
theorem r_cont (h : D.ct σ H) : tCont D σ H := h
theorem r_ret (h : te σ H D.rt) : tRet te D σ H := h
theorem r_drop (h : te σ H fun _ H1 => D.nx σ H1) : tDrop te D σ H := h
theorem r_set {i : Nat} (h : te σ H fun v H1 => D.nx (σ.set i (some v)) H1) : tAsg te (gName i) D σ H := h
theorem r_asg {g : TG} (h : te σ H fun x H1 => g x σ H1 D.nx) : tAsg te g D σ H := h
theorem r_gname {i : Nat} {Q : St → Hp → Prop} (h : Q (σ.set i (some v)) H) : gName i v σ H Q := h
theorem r_gtup {n : Nat} {tg : TGs} {a : Addr} {xs : List V} {Q : St → Hp → Prop} (ha : SqT K H a xs) (hn : xs.length = n) (h : tg xs σ H Q) : gTup K n tg (.ref a) σ H Q := ⟨a, xs, rfl, ha, hn, h⟩
theorem r_gcons {g : TG} {tg : TGs} {vs : List V} {Q : St → Hp → Prop} (h : g v σ H fun σ' H' => tg vs σ' H' Q) : gCons g tg (v :: vs) σ H Q := ⟨v, vs, rfl, h⟩
theorem r_gnil {Q : St → Hp → Prop} (h : Q σ H) : gNil [] σ H Q := ⟨rfl, h⟩
theorem r_ifS (h : tt σ H fun b H1 => if b = true then t D σ H1 else u D σ H1) : tIfS tt t u D σ H := h
theorem r_aug {i : Nat} {ti : TIp} (h : σ[i]? = some (some x)) (q : te σ H fun y H1 => ti x y H1 fun z H2 => D.nx (σ.set i (some z)) H2) : tAug i te ti D σ H := ⟨x, h, q⟩
theorem r_ipI {f : Int → Int → Int} {i j : Int} (q : Q (.int (f i j)) H) : ipI f (.int i) (.int j) H Q := ⟨i, j, rfl, rfl, q⟩
/-! arguments, displays, calls -/
theorem r_nil {Q : List V → Hp → Prop} (q : Q [] H) : tNil σ H Q := q
theorem r_cons {tr : TA} {Q : List V → Hp → Prop} (h : ta σ H fun x H1 => tr σ H1 fun xs H2 => Q (x :: xs) H2) : tCons ta tr σ H Q := h
theorem r_tup {tr : TA} (h : tr σ H fun xs H1 => xs.length ≤ sizeLine ∧ ∀ p, H1 p = none → Q (.ref p) (upd H1 p (.tup xs))) : tTup tr σ H Q := h
theorem r_lst {tr : TA} (h : tr σ H fun xs H1 => xs.length ≤ sizeLine ∧ ∀ p, H1 p = none → Q (.ref p) (upd H1 p (.lst xs))) : tLst tr σ H Q := h
theorem r_call {sp : Sp} {E : XK} {tr : TA} (h : tr σ H fun vs H1 => sp vs H1 Q E) : tCall sp [] E tr σ H Q := by
  have e : (fun (vs : List V) (H1 : Hp) => sp (vs ++ []) H1 Q E) = fun vs H1 => sp vs H1 Q E := by
    funext vs H1
    rw [List.append_nil]
  show tr σ H (fun (vs : List V) (H1 : Hp) => sp (vs ++ []) H1 Q E)
  rw [e]
  exact h
theorem r_callB {r : List V → Hp → VK → Prop} {tr : TA} (h : tr σ H fun vs H1 => r vs H1 Q) : tCB r tr σ H Q := h
theorem r_fld {f : Str} (h : ta σ H fun x H1 => ∃ a C dx fs v, x = .ref a ∧ H1 a = some (.ins C dx fs) ∧ Cls K C ∧ NoAttr K C f ∧ fs.lookup f = some v ∧ Q v H1) : tFld K ta f σ H Q := h
end

/-! ### kinds of values -/
/-- the types that may be asked of -/
def tyNames : List String := ["NoneType", "bool", "int", "str", "list", "tuple", "dict"]
def IsTy (K : PySem.W.Frag) (H : Hp) (v : V) (T : String) : Prop := TyX K H v (.type T) ∧ T ∈ tyNames
section
variable {K : PySem.W.Frag} {H H' : Hp} {Q : VK} {v : V} {T : String} {a : Addr}
theorem IsTy.non : IsTy K H .non "NoneType" := ⟨.base .non, by decide⟩
theorem IsTy.bl (b : Bool) : IsTy K H (.bl b) "bool" := ⟨.base (.bl b), by decide⟩
theorem IsTy.int (i : Int) : IsTy K H (.int i) "int" := ⟨.base (.int i), by decide⟩
theorem IsTy.str (x : Str) : IsTy K H (.str x) "str" := ⟨.base (.str x), by decide⟩
theorem IsTy.lst {xs : List V} (h : H a = some (.lst xs)) : IsTy K H (.ref a) "list" := ⟨.base (.lst h), by decide⟩
theorem IsTy.tup {xs : List V} (h : H a = some (.tup xs)) : IsTy K H (.ref a) "tuple" := ⟨.base (.tup h), by decide⟩
theorem IsTy.dK {kvs : List (Key × V)} (h : H a = some (.dK kvs)) : IsTy K H (.ref a) "dict" := ⟨.base (.dK h), by decide⟩
theorem IsTy.sqT {xs : List V} (h : SqT K H a xs) : IsTy K H (.ref a) "tuple" := by
  rcases h with (h | ⟨o, h⟩) | ⟨o, its, n, h, c, _⟩
  · exact .tup h
  · exact ⟨.fTuple h, by decide⟩
  · exact ⟨.kTuple h c, by decide⟩
def isIntV : V → Bool
  | .int _ => true
  | _ => false
def isBlV : V → Bool
  | .bl _ => true
  | _ => false
def isStrV : V → Bool
  | .str _ => true
  | _ => false
theorem r_isi {c : String} {b : Bool} (ty : IsTy K H v T) (e : kitB T c = some b) (q : Q (.bl b) H) : rIsi K [v, .ty c] H Q :=
  ⟨v, .ty c, .type T, .type c, b, rfl, .ty c, ty.1, kit_ty e, q⟩
theorem IsTy.cases (h : IsTy K H v T) : (v = .non ∧ T = "NoneType") ∨ (∃ b, v = .bl b ∧ T = "bool") ∨ (∃ i, v = .int i ∧ T = "int") ∨ (∃ x, v = .str x ∧ T = "str") ∨ (∃ a, v = .ref a ∧ T ∈ ["list", "tuple", "dict"]) := by
  obtain ⟨h, m⟩ := h
  generalize ht : Value.type T = t at h
  cases h with
  | base b =>
    cases b with
    | non => cases ht; exact .inl ⟨rfl, rfl⟩
    | bl b => cases ht; exact .inr (.inl ⟨b, rfl, rfl⟩)
    | int i => cases ht; exact .inr (.inr (.inl ⟨i, rfl, rfl⟩))
    | str x => cases ht; exact .inr (.inr (.inr (.inl ⟨x, rfl, rfl⟩)))
    | flt x => cases ht; exact absurd m (by decide)
    | lst e => cases ht; exact .inr (.inr (.inr (.inr ⟨_, rfl, by decide⟩)))
    | frz e => cases ht; exact .inr (.inr (.inr (.inr ⟨_, rfl, by decide⟩)))
    | tup e => cases ht; exact .inr (.inr (.inr (.inr ⟨_, rfl, by decide⟩)))
    | dK e => cases ht; exact .inr (.inr (.inr (.inr ⟨_, rfl, by decide⟩)))
    | dT e => cases ht; exact .inr (.inr (.inr (.inr ⟨_, rfl, by decide⟩)))
    | ins => cases ht
  | byt b => cases ht; exact absurd m (by decide)
  | set e => cases ht; exact absurd m (by decide)
  | kList e c => cases ht; exact .inr (.inr (.inr (.inr ⟨_, rfl, by decide⟩)))
  | kTuple e c => cases ht; exact .inr (.inr (.inr (.inr ⟨_, rfl, by decide⟩)))
  | kDict e c => cases ht; exact .inr (.inr (.inr (.inr ⟨_, rfl, by decide⟩)))
  | fTuple e => cases ht; exact .inr (.inr (.inr (.inr ⟨_, rfl, by decide⟩)))
  | fDict e => cases ht; exact .inr (.inr (.inr (.inr ⟨_, rfl, by decide⟩)))
end

/-! ### a def, by its name -/
/-- the def of this name keeps this promise -/
def Cal (P : Program) (w : World) (K : PySem.W.Frag) (mg : Str → Option Value) (base : Heap) (k : Nat) (x : Str) (ps : List Str) (sp : Sp) : Prop :=
  ∃ f fd, mg x = some (.ref f) ∧ PySem.W.keepIn K (.ref f) = true ∧ FnOk P w K mg base (L2.CX P w) k f fd ps sp ∧ Binds K fd ps []
theorem pe_f {X : Cx} {k j : Nat} {x : Str} {ps : List Str} {sp : Sp} {E : XK} {p pos : Pos} {e : Expr} {es : List Expr} {t : TA} (c : Cal X.prog X.w X.K X.mg X.base k x ps sp) (hr : Room j X.A) (hk : k ≤ j) (hx : Passes (L2.CX X.prog X.w) X E) (ha : PA X (e :: es) t)
    (hg : Gl X x := by rfl) (hdb : (x == ("__debug__" : Str)) = false := by decide) (he : starEach (e :: es) X.env = (false, eval e X.env) :: starEach es X.env := by rfl) (hpl : (backTo pos (starEach es X.env)).any (·.1) = false := by rfl) :
    PE X (.Call (.Name x p) (e :: es) [] pos) (tCall sp [] E t) := by
  obtain ⟨f, fd, h1, h2, F, b⟩ := c
  exact pe_call F (hr.mono hk) hg h1 h2 b .nil hx ha hdb he hpl
/-- a built-in type by its name, as a value -/
theorem pe_ty {X : Cx} (n : String) {x : Str} {pos : Pos} (hm : X.mg x = none) (hv : bootBuiltins x = some (.type n) := by decide +kernel) (hg : Gl X x := by rfl) (hn : x ≠ "__name__" := by decide) (hd : (x == ("__debug__" : Str)) = false := by decide) : PE X (.Name x pos) (tC (.ty n)) :=
  pe_bltn hg hm hv rfl hn hd
/-- a module's int -/
theorem pe_gi {X : Cx} {x : Str} {i : Int} {pos : Pos} (hm : ∃ t, X.mg x = some (.int i t)) (hg : Gl X x := by rfl) (hd : (x == ("__debug__" : Str)) = false := by decide) : PE X (.Name x pos) (tC (.int i)) := by
  obtain ⟨t, h⟩ := hm
  exact pe_glob hg h ⟨t, rfl⟩ hd
/-- a built-in function called -/
theorem pe_bi {X : Cx} {x : Str} {id : String} {r : List V → Hp → VK → Prop} {p pos : Pos} {e : Expr} {es : List Expr} {t : TA} (hc : CallR X (.builtin id) r) (hm : X.mg x = none) (hv : bootBuiltins x = some (.builtin id)) (ha : PA X (e :: es) t) (hg : Gl X x := by rfl)
    (hn : x ≠ "__name__" := by decide) (hdb : (x == ("__debug__" : Str)) = false := by decide) (he : starEach (e :: es) X.env = (false, eval e X.env) :: starEach es X.env := by rfl) (hpl : (backTo pos (starEach es X.env)).any (·.1) = false := by rfl) :
    PE X (.Call (.Name x p) (e :: es) [] pos) (tCB r t) := pe_callB hc hg hm hv ha hn hdb he hpl
/-- a built-in class called -/
theorem pe_bt {X : Cx} {x : Str} {T : String} {r : List V → Hp → VK → Prop} {p pos : Pos} {e : Expr} {es : List Expr} {t : TA} (hc : CallR X (.type T) r) (hm : X.mg x = none) (hv : bootBuiltins x = some (.type T)) (ha : PA X (e :: es) t) (hg : Gl X x := by rfl)
    (hn : x ≠ "__name__" := by decide) (hdb : (x == ("__debug__" : Str)) = false := by decide) (he : starEach (e :: es) X.env = (false, eval e X.env) :: starEach es X.env := by rfl) (hpl : (backTo pos (starEach es X.env)).any (·.1) = false := by rfl) :
    PE X (.Call (.Name x p) (e :: es) [] pos) (tCB r t) := pe_callTy hc hg hm hv ha hn hdb he hpl
/-- what the top has left -/
structure Ct (fa : List He.Fa) (fn : List He.DefD) (K : PySem.W.Frag) (mg : Str → Option Value) (base : Heap) : Prop where
  says : He.SaysD fa fn K
  kin : K.In base
  glob : base.Ns mainGlobals mg
section
variable {P : Program} {w : World} {fa : List He.Fa} {fn : List He.DefD} {K : PySem.W.Frag} {mg : Str → Option Value} {base : Heap}
theorem Ct.free (C : Ct fa fn K mg base) (i : Nat) {x : Str} (h : fa[i]? = some (.free x) := by rfl) : mg x = none := He.free_ok C.kin C.glob (C.says.fact i h)
theorem Ct.int (C : Ct fa fn K mg base) (i : Nat) {x : Str} {n : Int} (h : fa[i]? = some (.int x n) := by rfl) : ∃ t, mg x = some (.int n t) := He.int_ok C.kin C.glob (C.says.fact i h)
theorem Ct.cal (C : Ct fa fn K mg base) (i j : Nat) {x : Str} {a : Arguments} {b : List Stmt} {sc : Scope} (hd : fn[i]? = some ⟨(x, none), x, x, a, b, sc, [], []⟩) (hj : fa[j]? = some (.glo x)) {N ps : List Str} {k : Nat} {sp : Sp} (S : FnScope N ps sc)
    (hb : ∀ (kV doc pm : Value) (an : Option Addr) (cdv ct : Value) (us : List Value), us.length = ps.length → bindArgs (PySem.W.fnOf x x a b sc .none kV doc pm an cdv ct) ⟨us, []⟩ = pure (ps.zip us))
    (len : ∀ vs H Q E, sp vs H Q E → vs.length = ps.length)
    (hbody : ∀ (f : Addr) (cdv : Value) (A : Around) (outer : List Env) (s : Shared) (H : Hp) (vs : List V) (Q : VK) (E : XK), Room k (A.deeper (envOfC x sc s.heap.objs.size f cdv)) → sp vs H Q E →
      ∃ t, PSs (cxOf (L2.CX P w) P w K mg base N x sc f cdv A outer s H E) b t ∧ t { nx := fun _ H' => Q .non H', rt := Q } (start N vs) H) : Cal P w K mg base (k + 1) x ps sp := by
  obtain ⟨fd, F⟩ := C.says.def_ i hd
  exact ⟨_, fd, He.glo_ok C.kin C.glob (C.says.fact j hj), F.kp, FunD.ok F S len fun cdv A outer s H vs Q E hr h => hbody _ cdv A outer s H vs Q E hr h, FunD.bindsN F hb⟩
end
end PB

/-! PR: more rules by values: any kind of operand, tuples where the layer has lists. -/
namespace PB
open PySem PySem.Spec L2
open PyProof.Rows hiding St
section
variable {X : Cx}
/-! ### comparisons -/
def rCmpD (K : PySem.W.Frag) (f : PyData → PyData → Bool) : R2 := fun x y H Q => ∃ d e, Dp K H x d ∧ Dp K H y e ∧ PySem.W.alike d e = true ∧ d ≠ .none ∧ min d.depth e.depth ≤ 60 ∧ Q (.bl (f d e)) H
theorem cmpD {op : CmpOp} {f : PyData → PyData → Bool} (hu : X.A.units + 64 < cLine)
    (rule : ∀ {s : Shared} {a b : Value} {da db : PyData} {as bs : List Addr} {Q : Value → Shared → Prop}, Reads s.heap a da as → Reads s.heap b db bs → PySem.W.alike da db = true → da ≠ .none → X.A.units + min da.depth db.depth < cLine → Q (.bool (f da db)) s → wpAny (model X.prog X.w) X.A (compareOp op a b) Q X.xe s) :
    OpR X (compareOp op) (rCmpD X.K f) := by
  intro pins s σ H x y v u Q I rx ry h
  obtain ⟨d, e, hd, he, al, nn, dp, q⟩ := h
  obtain ⟨as, r1⟩ := Dp.reads I d x v hd rx
  obtain ⟨bs, r2⟩ := Dp.reads I e y u he ry
  exact rule r1 r2 al nn (by omega) ⟨.bl _, H, I, rfl, q⟩
def rCmpA (K : PySem.W.Frag) (g : Int → Int → Bool) (f : PyData → PyData → Bool) : R2 := fun x y H Q => rI0 (fun i j => .bl (g i j)) x y H Q ∨ rCmpD K f x y H Q
theorem op_ltA' (hu : X.A.units + 64 < cLine) : OpR X (compareOp .Lt) (rCmpA X.K (fun i j => decide (i < j)) fun d e => PySem.W.dataLt d e) := OpR.or op_lt (cmpD hu PySem.W.lt_data)
theorem op_gtA' (hu : X.A.units + 64 < cLine) : OpR X (compareOp .Gt) (rCmpA X.K (fun i j => decide (j < i)) fun d e => PySem.W.dataLt e d) := OpR.or op_gt (cmpD hu PySem.W.gt_data)
theorem op_leA' (hu : X.A.units + 64 < cLine) : OpR X (compareOp .LtE) (rCmpA X.K (fun i j => decide (i ≤ j)) fun d e => !PySem.W.dataLt e d) := OpR.or op_le (cmpD hu PySem.W.le_data)
theorem op_geA' (hu : X.A.units + 64 < cLine) : OpR X (compareOp .GtE) (rCmpA X.K (fun i j => decide (j ≤ i)) fun d e => !PySem.W.dataLt d e) := OpR.or op_ge (cmpD hu PySem.W.ge_data)
/-- room for 64 units -/
theorem un64 {k : Nat} {A : Around} (hr : Room k A) : A.units + 64 < cLine := by
  have := hr.un
  omega
theorem op_ltA {k : Nat} (hr : Room k X.A) : OpR X (compareOp .Lt) (rCmpA X.K (fun i j => decide (i < j)) fun d e => PySem.W.dataLt d e) := op_ltA' (un64 hr)
theorem op_gtA {k : Nat} (hr : Room k X.A) : OpR X (compareOp .Gt) (rCmpA X.K (fun i j => decide (j < i)) fun d e => PySem.W.dataLt e d) := op_gtA' (un64 hr)
theorem op_leA {k : Nat} (hr : Room k X.A) : OpR X (compareOp .LtE) (rCmpA X.K (fun i j => decide (i ≤ j)) fun d e => !PySem.W.dataLt e d) := op_leA' (un64 hr)
theorem op_geA {k : Nat} (hr : Room k X.A) : OpR X (compareOp .GtE) (rCmpA X.K (fun i j => decide (j ≤ i)) fun d e => !PySem.W.dataLt d e) := op_geA' (un64 hr)
def rEqA (K : PySem.W.Frag) : R2 := fun x y H Q => rEq x y H Q ∨ rEqD K x y H Q
def rNeA (K : PySem.W.Frag) : R2 := fun x y H Q => rNe x y H Q ∨ rNeD K x y H Q
theorem op_eqA {k : Nat} (hr : Room k X.A) : OpR X (compareOp .Eq) (rEqA X.K) := OpR.or op_eq (op_eqD (un64 hr))
theorem op_neA {k : Nat} (hr : Room k X.A) : OpR X (compareOp .NotEq) (rNeA X.K) := OpR.or op_ne (op_neD (un64 hr))
def rInA (K : PySem.W.Frag) : R2 := fun x y H Q => rIn K false x y H Q ∨ rInD K x y H Q
def rNinA (K : PySem.W.Frag) : R2 := fun x y H Q => rIn K true x y H Q ∨ rNotInD K x y H Q
theorem op_inA {k : Nat} (hr : Room k X.A) : OpR X (compareOp .In) (rInA X.K) := OpR.or op_in_seq (op_inD (by have := hr.un; omega))
theorem op_ninA {k : Nat} (hr : Room k X.A) : OpR X (compareOp .NotIn) (rNinA X.K) := OpR.or op_notIn_seq (op_notInD (by have := hr.un; omega))

/-! ### sums, joins -/
def rAddA (K : PySem.W.Frag) : R2 := fun x y H Q => rI0 (fun i j => .int (i + j)) x y H Q ∨ rCat x y H Q ∨ rCatA K x y H Q ∨ ∃ i j, x = .str i ∧ y = .str j ∧ i.length + j.length ≤ sizeLine ∧ Q (.str (i ++ j)) H
theorem op_addA : OpR X (binaryOp .Add) (rAddA X.K) := OpR.or op_add (OpR.or op_cat (OpR.or op_catA op_add_str))
def rMulA (K : PySem.W.Frag) : R2 := fun x y H Q => rI CMul (fun i j => .int (i * j)) x y H Q ∨ rRep x y H Q ∨ rRepT K x y H Q
theorem op_mulA : OpR X (binaryOp .Mult) (rMulA X.K) := OpR.or op_mul (OpR.or op_rep op_repT)

/-! ### built-in functions on lists and tuples -/
def rSumT (K : PySem.W.Frag) : List V → Hp → VK → Prop := fun vs H Q => ∃ (a : Addr) (ns : List Int), vs = [V.ref a] ∧ SqT K H a (ns.map V.int) ∧ Q (.int ns.sum) H
theorem cr_sumT (hc : X.calm = true) : CallR X (.builtin "sum") (rSumT X.K) := by
  intro pins s σ H vs us Q I r h
  obtain ⟨a, ns, rfl, ht, q⟩ := h
  obtain ⟨its, rv, ⟨o, e, c, n, d⟩, _⟩ := I.tuple ht
  rw [Vals.ref1 r]
  have hi := rv.ints
  obtain ⟨xs, ex⟩ := hi.allInts.items
  have hn : numsOf (intItems xs).toList = ns := by rw [← ex]; exact hi.numsOf
  rw [nums_intItems] at hn
  have hT : s.heap.IsTuple a (intItems xs) := by rw [← ex]; exact ⟨o, e, c, n, d⟩
  refine PySem.W.ktm_sumG (I.ok.hd hc) hT fun h' tk t' hk => ?_
  rw [preSum_eq, List.take_of_length_le (by simp), hn]
  exact ⟨.int ns.sum, H, I.kept hk, ⟨t', rfl⟩, q⟩
def rSumA (K : PySem.W.Frag) : List V → Hp → VK → Prop := fun vs H Q => rSum K vs H Q ∨ rSumT K vs H Q
theorem cr_sumA (hc : X.calm = true) : CallR X (.builtin "sum") (rSumA X.K) := CallR.or (cr_sum hc) (cr_sumT hc)
def rSortedTI (K : PySem.W.Frag) : List V → Hp → VK → Prop := fun vs H Q => ∃ (a : Addr) (ns : List Int), vs = [V.ref a] ∧ SqT K H a (ns.map V.int) ∧
  ∀ (ns' : List Int) (p : Addr), ns'.Perm ns → ns'.Pairwise (· ≤ ·) → H p = none → Q (.ref p) (upd H p (.lst (ns'.map V.int)))
theorem cr_sortedTI : CallR X (.builtin "sorted") (rSortedTI X.K) := by
  intro pins s σ H vs us Q I r h
  obtain ⟨a, ns, rfl, ht, q⟩ := h
  obtain ⟨its, rv, ⟨o, e, c, n, d⟩, hz⟩ := I.tuple ht
  have hlen := rv.length
  rw [Vals.ref1 r]
  have hi := rv.ints
  refine Calls.call_function_entry PyProof.Rows.kind_sorted PyProof.Rows.plain_sorted PyProof.Rows.entry_sorted (PyProof.Rows.args_sorted1 _) ?_
  unfold Builtin.«sorted»
  refine wpAny_bind (wpAny_pure ?_)
  refine wpAny_bind (wpAny_collect_seq a (.inr rfl) e c d (fun h1 k1 => ?_) (by rw [List.size_toArray, ← hlen]; exact hz))
  refine wpAny_bind (wpAny_newList ?_ (by show its.length ≤ sizeLine; rw [← hlen]; exact hz))
  have e1 : (h1.push { cls := .type "list", data := .seq its.toArray }).get? h1.objs.size = some (PyProof.Rows.seqObj "list" its.toArray 0) := Heap.get?_push_size _ rfl
  refine wpAny_bind (wpAny_holding (wpAny_call_entry PyProof.Rows.slot_list_sort ⟨_, e1, rfl⟩ PyProof.Rows.entry_list_sort
    (SrtO.list_sort_ord SrtO.swo_int e1 (by rw [← hlen]; exact hz) (fun h2 => SrtO.ints_sortable hi h2) fun out g1 g2 => ⟨_, rfl, ?_⟩) (PyProof.Rows.args_list_sort _)))
  obtain ⟨k3, k4, k5⟩ := SrtO.ints_out hi g1 g2
  obtain ⟨ep, he⟩ := PyProof.Rows.sortedHeap_at (vs := its) (out := out.toArray) e1
  have I1 : Inv X pins σ H { s with heap := h1 } := I.kept (t' := s.toks) k1
  have old : ∀ b u, h1.get? b = some u → (PyProof.Rows.sortedHeap (h1.push { cls := .type "list", data := .seq its.toArray }) h1.objs.size its out.toArray).get? b = some u := fun b u eb => by
    have lt := Heap.lt_size eb
    rw [PyProof.Rows.sortedHeap_old (Nat.ne_of_lt lt) (by rw [Heap.size_push]; exact Nat.lt_succ_of_lt lt)]
    exact Heap.get?_push_of_some _ eb
  have hl2 : ((out.map SrtO.iv).map V.int).length ≤ sizeLine := by
    rw [List.length_map, k4.length_eq]
    rw [List.length_map] at hz
    exact hz
  exact wpAny_pure ⟨_, rfl, ⟨.ref _, upd H h1.objs.size (.lst ((out.map SrtO.iv).map V.int)), I1.laid (t' := s.toks) old (Nat.le_refl _) ⟨hl2, out, ep, vals_of_ints k3, he⟩, rfl, q _ _ k4 k5 (I1.hok.fresh (Nat.le_refl _))⟩⟩
/-! ### targets of two, of three names -/
theorem pg_two {i j kk : Nat} {x y : Str} {px py pos : Pos} (hc : X.calm = true) (hN : X.N.Nodup) (hi : X.N[i]? = some x) (hj : X.N[j]? = some y) (lx : Loc X.env.scope x) (ly : Loc X.env.scope y)
    (fx : X.fn x = true ∨ X.env.scope.names.lookup x = some .local) (fy : X.fn y = true ∨ X.env.scope.names.lookup y = some .local) : PG X (.Tuple [.Name x px, .Name y py] kk pos) (gTup X.K 2 (gCons (gName i) (gCons (gName j) gNil))) :=
  pg_tup hc (pgs_cons (pg_name hN hi lx fx) (pgs_cons (pg_name hN hj ly fy) pgs_nil))
theorem pg_three {i j l kk : Nat} {x y z : Str} {px py pz pos : Pos} (hc : X.calm = true) (hN : X.N.Nodup) (hi : X.N[i]? = some x) (hj : X.N[j]? = some y) (hl : X.N[l]? = some z) (lx : Loc X.env.scope x) (ly : Loc X.env.scope y) (lz : Loc X.env.scope z)
    (fx : X.fn x = true ∨ X.env.scope.names.lookup x = some .local) (fy : X.fn y = true ∨ X.env.scope.names.lookup y = some .local) (fz : X.fn z = true ∨ X.env.scope.names.lookup z = some .local) : PG X (.Tuple [.Name x px, .Name y py, .Name z pz] kk pos) (gTup X.K 3 (gCons (gName i) (gCons (gName j) (gCons (gName l) gNil)))) :=
  pg_tup hc (pgs_cons (pg_name hN hi lx fx) (pgs_cons (pg_name hN hj ly fy) (pgs_cons (pg_name hN hl lz fz) pgs_nil)))
/-! ### built-in calls under names of their own -/
def rLenA (K : PySem.W.Frag) : List V → Hp → VK → Prop := fun xs H Q => ∃ x n, xs = [x] ∧ LenV K x H n ∧ Q (.int n) H
theorem cr_len : CallR X (.builtin "len") (rLenA X.K) := call_len
def rMax2A : List V → Hp → VK → Prop := fun xs H Q => ∃ i j, xs = [.int i, .int j] ∧ Q (.int (if j > i then j else i)) H
theorem cr_max2 (hc : X.calm = true) : CallR X (.builtin "max") rMax2A := call_max2 hc
def rMin2A : List V → Hp → VK → Prop := fun xs H Q => ∃ i j, xs = [.int i, .int j] ∧ Q (.int (if j < i then j else i)) H
theorem cr_min2 (hc : X.calm = true) : CallR X (.builtin "min") rMin2A := call_min2 hc
def rAbsA : List V → Hp → VK → Prop := fun xs H Q => ∃ i, xs = [.int i] ∧ Q (.int (if i < 0 then -i else i)) H
theorem cr_abs : CallR X (.builtin "abs") rAbsA := call_abs
def rInt1A : List V → Hp → VK → Prop := fun xs H Q => (∃ i, xs = [.int i] ∧ Q (.int i) H) ∨ ∃ k, xs = [.bl k] ∧ Q (.int (if k then 1 else 0)) H
theorem cr_int1 : CallR X (.type "int") rInt1A := call_int1
def rTupA (K : PySem.W.Frag) : List V → Hp → VK → Prop := fun xs H Q => ∃ p ys, xs = [.ref p] ∧ ((SqL K H p ys ∧ ∀ l, H l = none → Q (.ref l) (upd H l (.tup ys))) ∨ (SqT K H p ys ∧ Q (.ref p) H))
theorem cr_tuple : CallR X (.type "tuple") (rTupA X.K) := call_tuple_of
def rListA (K : PySem.W.Frag) : List V → Hp → VK → Prop := fun xs H Q => ∃ p ys, xs = [.ref p] ∧ (SqL K H p ys ∨ SqT K H p ys) ∧ ∀ l, H l = none → Q (.ref l) (upd H l (.lst ys))
theorem cr_list : CallR X (.type "list") (rListA X.K) := call_list_of
/-! ### items and cuts -/
def rIxA (K : PySem.W.Frag) : R2 := fun x y H Q => rIxL K x y H Q ∨ rIxT K x y H Q ∨ rIxS x y H Q
theorem ix_A : IxR X (rIxA X.K) := IxR.or ix_list (IxR.or ix_tup ix_str)
def rSortedA (K : PySem.W.Frag) : List V → Hp → VK → Prop := fun vs H Q => rSortedI K vs H Q ∨ rSortedTI K vs H Q
theorem cr_sortedA : CallR X (.builtin "sorted") (rSortedA X.K) := CallR.or cr_sortedI cr_sortedTI
def rSlcA (K : PySem.W.Frag) : V → Option Int → Option Int → Hp → VK → Prop := fun x lo hi H Q => rSlL K x lo hi H Q ∨ rSlA K x lo hi H Q ∨ rSlS x lo hi H Q
theorem sl_A : SlR X (rSlcA X.K) := SlR.or sl_list (SlR.or sl_tupA sl_str)
/-! ### what a for walks -/
/-- a list or a tuple -/
def iSeq (K : PySem.W.Frag) (tl : TE) : TI := fun σ H R => tl σ H fun x H1 => ∃ a xs, x = .ref a ∧ ((SqL K H1 a xs ∧ R (Itl K a) H1) ∨ (SqT K H1 a xs ∧ R (Itt K a) H1))
theorem pi_seq {tg l : Expr} {tl : TE} (hl : PE X l tl) : PI X tg l (iSeq X.K tl) := by
  refine ⟨fun pins s σ H R I h => ?_⟩
  refine thn (hl.run pins s σ H _ I h) fun v s1 ⟨x, H1, I1, r1, a, xs, e, q1⟩ => ?_
  subst e
  obtain rfl : v = Value.ref a := r1
  rcases q1 with ⟨hq, q⟩ | ⟨hq, q⟩
  · obtain ⟨its, rv, p, hz⟩ := I1.list hq
    refine wpAny_pyIter_list p.isList ?_
    refine ⟨s1.heap.objs.size, [s1.heap.objs.size], _, _, H1, rfl, I1.kept (t' := s1.toks) fun b o e => Heap.get?_push_of_some _ e, turn_list a _, ⟨_, Heap.get?_push_size _ rfl, rfl, rfl⟩, fun b hb => ?_, q⟩
    obtain rfl := List.mem_singleton.mp hb
    exact I1.fpOk (Nat.le_refl _) (I1.hok.fresh (Nat.le_refl _))
  · obtain ⟨its, rv, p, hz⟩ := I1.tuple hq
    refine wpAny_pyIter_tuple (show s1.heap.IsTuple a its.toArray from p) ?_
    refine ⟨s1.heap.objs.size, [s1.heap.objs.size], _, _, H1, rfl, I1.kept (t' := s1.toks) fun b o e => Heap.get?_push_of_some _ e, turn_tuple a _, ⟨_, Heap.get?_push_size _ rfl, rfl, rfl⟩, fun b hb => ?_, q⟩
    obtain rfl := List.mem_singleton.mp hb
    exact I1.fpOk (Nat.le_refl _) (I1.hok.fresh (Nat.le_refl _))
end
end PB

/-! PZ: zip and enumerate over lists and tuples in any mix. -/
namespace PB
open PySem PySem.Spec L2
open PyProof.Rows hiding St
/-- a list, a tuple -/
inductive Sk where
  | l | t
def Sk.at : Sk → PySem.W.Frag → Hp → Addr → List V → Prop
  | .l, K, H, a, xs => SqL K H a xs
  | .t, K, H, a, xs => SqT K H a xs
def Sk.iter : Sk → Heap → Addr → Addr → Nat → Prop
  | .l, h, it, a, i => h.IsListIter it a i
  | .t, h, it, a, i => h.IsTupleIter it a i
def Sk.its : Sk → Heap → Addr → Array Value → Prop
  | .l, h, a, vs => h.IsList a vs
  | .t, h, a, vs => h.IsTuple a vs
def Sk.obj : Sk → Addr → Obj
  | .l, a => { cls := .type "list_iterator", data := .fields #[.ref a, .int 0 0] }
  | .t, a => { cls := .type "tuple_iterator", data := .fields #[.ref a, .int 0 0] }
theorem Sk.draws (k : Sk) {prog : Program} {w : World} {A : Around} (hh : A.handled = none) (it a : Addr) (hne : a ≠ it) (vs : Array Value) :
    Draws prog w A it [it, a] vs.size (fun i v => vs[i]? = some v) (fun i h => k.iter h it a i ∧ k.its h a vs) := by
  cases k with
  | l => exact Draws.list hh it a hne vs
  | t => exact Draws.tuple hh it a hne vs
theorem Sk.begins (k : Sk) (a : Addr) (vs : Array Value) : Begins (.ref a) (k.obj a) fun h => k.its h a vs := by
  cases k with
  | l => exact begins_list a vs
  | t => exact begins_tuple a vs
theorem Sk.start (k : Sk) {h : Heap} {it a : Addr} (e : h.get? it = some (k.obj a)) : k.iter h it a 0 := by
  cases k with
  | l => exact ⟨_, e, rfl, rfl⟩
  | t => exact ⟨_, e, rfl, rfl⟩
theorem Sk.keep (k : Sk) {h h' : Heap} {it a : Addr} {i : Nat} (x : k.iter h it a i) (kp : ∀ o, h.get? it = some o → h'.get? it = some o) : k.iter h' it a i := by
  cases k with
  | l => exact Heap.IsListIter.at x kp
  | t => exact Heap.IsTupleIter.at x kp
theorem Sk.there (k : Sk) {h : Heap} {it a : Addr} {i : Nat} (x : k.iter h it a i) : ∃ o, h.get? it = some o ∧ ∀ v, o.data ≠ .cell v := by
  cases k with
  | l => obtain ⟨o, e, _, d⟩ := x; exact ⟨o, e, fun v q => by rw [d] at q; cases q⟩
  | t => obtain ⟨o, e, _, d⟩ := x; exact ⟨o, e, fun v q => by rw [d] at q; cases q⟩
theorem Sk.inv (k : Sk) {X : Cx} {pins : List (Addr × Obj)} {σ : St} {H : Hp} {s : Shared} {a : Addr} {xs : List V} (I : Inv X pins σ H s) (h : k.at X.K H a xs) :
    ∃ its : List Value, Vals xs its ∧ k.its s.heap a its.toArray ∧ a < s.heap.objs.size := by
  cases k with
  | l => obtain ⟨its, r, p, _⟩ := I.list h; exact ⟨its, r, p.isList, p.lt⟩
  | t => obtain ⟨its, r, p, _⟩ := I.tuple h; exact ⟨its, r, p, p.lt⟩
theorem Sk.inj (k : Sk) {X : Cx} {pins : List (Addr × Obj)} {σ : St} {H : Hp} {s : Shared} {a : Addr} {xs ys : List V} (I : Inv X pins σ H s) (h : k.at X.K H a xs) (h' : k.at X.K H a ys) : xs = ys := by
  cases k with
  | l => exact I.list_inj h h'
  | t => exact I.tuple_inj h h'
/-- the items of two sources in new pairs -/
def ItP (K : PySem.W.Frag) (k1 k2 : Sk) (a b : Addr) : It :=
  ⟨fun i H => ∃ (xs ys : List V) (x y : V), k1.at K H a xs ∧ k2.at K H b ys ∧ xs[i]? = some x ∧ ys[i]? = some y,
    fun i H v H' => ∃ T x y, v = .ref T ∧ H T = none ∧ H' = upd H T (.tup [x, y]) ∧ (∀ xs, k1.at K H a xs → xs[i]? = some x) ∧ ∀ ys, k2.at K H b ys → ys[i]? = some y,
    fun i H => ∃ xs ys : List V, k1.at K H a xs ∧ k2.at K H b ys ∧ i = min xs.length ys.length⟩
theorem get_of {xs : List V} {its : List Value} {i : Nat} {x : V} (r : Vals xs its) (h : xs[i]? = some x) {u : Value} (hu : its.toArray[i]? = some u) : RelV x u := by
  obtain ⟨w, hw, rw'⟩ := r.get h
  have e : its[i]? = some u := by simpa using hu
  rw [hw] at e
  cases e
  exact rw'
theorem turn_pair {P : Program} {w : World} {K : PySem.W.Frag} {elts : List Expr} {kk : Nat} {tpos : Pos} {k1 k2 : Sk} {a b z TI TO i1 i2 : Addr} (S : ZipSep2 z TI TO i1 i2 [i1, a] [i2, b]) (n1 : a ≠ i1) (n2 : b ≠ i2) :
    Turn P w K (.Tuple elts kk tpos) (ItP K k1 k2 a b) [z, TI, TO, i1, i2] z (fun i h => IsZip h z TI TO .none ∧ IsTupOf2 h TI (.ref i1) (.ref i2) ∧ (∃ x y, IsTupOf2 h TO x y) ∧ k1.iter h i1 a i ∧ k2.iter h i2 b i) where
  mem := by simp
  obj := fun i h st c hc => by
    obtain ⟨hz, hTI, ⟨x, y, hTO⟩, h1, h2⟩ := st
    simp only [List.mem_cons, List.not_mem_nil, or_false] at hc
    rcases hc with q | q | q | q | q <;> subst q
    · exact ⟨_, hz, fun v q => nomatch q⟩
    · exact ⟨_, hTI, fun v q => nomatch q⟩
    · exact ⟨_, hTO, fun v q => nomatch q⟩
    · exact k1.there h1
    · exact k2.there h2
  keep := fun i h h' st kp => by
    obtain ⟨hz, hTI, ⟨x, y, hTO⟩, h1, h2⟩ := st
    exact ⟨kp z (by simp) _ hz, kp TI (by simp) _ hTI, ⟨x, y, kp TO (by simp) _ hTO⟩, k1.keep h1 fun o q => kp i1 (by simp) o q, k2.keep h2 fun o q => kp i2 (by simp) o q⟩
  item := by
    intro X hP hw hK hc i pins s σ H E I hf st hg
    subst hP hw hK
    obtain ⟨hz, hTI, hTO, h1, h2⟩ := st
    obtain ⟨xs, ys, x, y, qx, qy, hx, hy⟩ := hg
    obtain ⟨us, r1, p1, _⟩ := k1.inv I qx
    obtain ⟨vs, r2, p2, _⟩ := k2.inv I qy
    have hh : X.A.in1.handled = none := I.ok.hd hc
    have W := GoesN.zip2 (prog := X.prog) (w := X.w) (A := X.A) (elts := elts) (x1 := kk) (pos := tpos) S (k1.draws hh i1 a n1 us.toArray) (k2.draws hh i2 b n2 vs.toArray)
    have l1 : i < us.toArray.size := by
      have := (List.getElem?_eq_some_iff.mp hx).1
      rw [r1.length] at this
      simpa using this
    have l2 : i < vs.toArray.size := by
      have := (List.getElem?_eq_some_iff.mp hy).1
      rw [r2.length] at this
      simpa using this
    refine W.goes i s _ E (Nat.lt_min.mpr ⟨l1, l2⟩) ⟨hz, hTI, hTO, ⟨h1, p1⟩, h2, p2⟩ fun v h' tk hY st' kp _ => ?_
    obtain ⟨T, u, u2, rfl, hT, e1, e2, o, eo, co, no, dO⟩ := hY
    obtain ⟨hz', hTI', hTO', ⟨h1', _⟩, h2', _⟩ := st'
    have new : ObjOk X.prog X.w (upd H T (.tup [x, y])) h' T (.tup [x, y]) :=
      ⟨by show 2 ≤ sizeLine; decide, [u, u2], .cons (get_of r1 hx e1) (.cons (get_of r2 hy e2) .nil), ⟨o, eo, co, no, dO⟩⟩
    have sub : ∀ c, c ∈ [z, TO, i1, i2] → c ∈ [z, TI, TO, i1, i2] := fun c hc => by
      simp only [List.mem_cons, List.not_mem_nil, or_false] at hc ⊢
      rcases hc with q | q | q | q
      · exact .inl q
      · exact .inr (.inr (.inl q))
      · exact .inr (.inr (.inr (.inl q)))
      · exact .inr (.inr (.inr (.inr q)))
    have I1 : Inv X pins σ (upd H T (.tup [x, y])) { s with heap := h', toks := tk } := I.turnedNew (ch := [z, TO, i1, i2]) (fun c o hb q => kp c o hb q) (fun c hc => hf c (sub c hc)) hT new
    refine ⟨.ref T, _, I1, rfl, ⟨T, x, y, rfl, I.hok.fresh hT, rfl, fun l hl => by rw [k1.inj I hl qx]; exact hx, fun l hl => by rw [k2.inj I hl qy]; exact hy⟩, ⟨hz', hTI', hTO', h1', h2'⟩, fun c hc => ?_⟩
    have lt : c < s.heap.objs.size := by
      simp only [List.mem_cons, List.not_mem_nil, or_false] at hc
      rcases hc with q | q | q | q | q <;> subst q
      · exact Heap.lt_size hz
      · exact Heap.lt_size hTI
      · obtain ⟨_, _, e⟩ := hTO; exact Heap.lt_size e
      · obtain ⟨_, e, _⟩ := k1.there h1; exact Heap.lt_size e
      · obtain ⟨_, e, _⟩ := k2.there h2; exact Heap.lt_size e
    rw [upd_ne (Nat.ne_of_lt (Nat.lt_of_lt_of_le lt hT))]
    exact (hf c hc).1
  done := by
    intro X hP hw hK hc i pins s σ H E I hf st hg
    subst hP hw hK
    obtain ⟨hz, hTI, hTO, h1, h2⟩ := st
    obtain ⟨xs, ys, qx, qy, hi⟩ := hg
    obtain ⟨us, r1, p1, _⟩ := k1.inv I qx
    obtain ⟨vs, r2, p2, _⟩ := k2.inv I qy
    have hh : X.A.in1.handled = none := I.ok.hd hc
    have W := GoesN.zip2 (prog := X.prog) (w := X.w) (A := X.A) (elts := elts) (x1 := kk) (pos := tpos) S (k1.draws hh i1 a n1 us.toArray) (k2.draws hh i2 b n2 vs.toArray)
    have en : i = min us.toArray.size vs.toArray.size := by
      rw [List.size_toArray, List.size_toArray, ← r1.length, ← r2.length]
      exact hi
    subst en
    have sub : ∀ c, c ∈ [z, TO, i1, i2] → c ∈ [z, TI, TO, i1, i2] := fun c hc => by
      simp only [List.mem_cons, List.not_mem_nil, or_false] at hc ⊢
      rcases hc with q | q | q | q
      · exact .inl q
      · exact .inr (.inr (.inl q))
      · exact .inr (.inr (.inr (.inl q)))
      · exact .inr (.inr (.inr (.inr q)))
    exact W.stops s _ E ⟨hz, hTI, hTO, ⟨h1, p1⟩, h2, p2⟩ fun h' tk kp _ => I.turnedL (ch := [z, TO, i1, i2]) (fun c o hb q => kp c o hb q) (fun c hc => hf c (sub c hc))
  self := fun A i s Q E st h => wpAny_pyIter_zip st.1 h
def iZipM (K : PySem.W.Frag) (ta : TA) : TI := fun σ H R => ta σ H fun vs H1 => ∃ (k1 k2 : Sk) (a b : Addr) (xs ys : List V), vs = [.ref a, .ref b] ∧ k1.at K H1 a xs ∧ k2.at K H1 b ys ∧ R (ItP K k1 k2 a b) H1
theorem pi_zipM {X : Cx} {e e2 : Expr} {ta : TA} {p pos tpos : Pos} {elts : List Expr} {kk : Nat} (hg : Gl X "zip") (hm : X.mg "zip" = none) (ha : PA X [e, e2] ta)
    (hs : starEach [e, e2] X.env = (false, eval e X.env) :: starEach [e2] X.env := by rfl) (hpl : (backTo pos (starEach [e2] X.env)).any (·.1) = false := by rfl) :
    PI X (.Tuple elts kk tpos) (.Call (.Name "zip" p) [e, e2] [] pos) (iZipM X.K ta) := by
  refine ⟨fun pins s σ H R I h => ?_⟩
  refine Call_ (ld_blt I hg hm PyProof.Rows.boot_zip (PyProof.Rows.callWith_type1 (thn (ha.run pos pins s σ H _ I h) fun us s1 ⟨vs, H1, I1, r1, q1⟩ => ?_) hs hpl))
  obtain ⟨k1, k2, a, b, xs, ys, ex, qx, qy, q⟩ := q1
  subst ex
  obtain ⟨u1, u2, rfl, ra, rb⟩ := vals2 r1
  obtain rfl : u1 = Value.ref a := ra
  obtain rfl : u2 = Value.ref b := rb
  obtain ⟨its, _, p1, la⟩ := k1.inv I1 qx
  obtain ⟨its2, _, p2, lb⟩ := k2.inv I1 qy
  refine zip_begins2 (k1.begins a its.toArray) (k2.begins b its2.toArray) p1 p2 fun h' hz hTI hTO e1 e2 _ hk => wpAny_pyIter_zip hz ?_
  have I2 : Inv X pins σ H1 { s1 with heap := h' } := I1.kept (t' := s1.toks) hk
  have S := zip_sep2 (N := s1.heap.objs.size) (fp1 := [a]) (fp2 := [b]) (fun c hc => by rw [List.mem_singleton.mp hc]; exact la) (fun c hc => by rw [List.mem_singleton.mp hc]; exact lb)
  refine ⟨s1.heap.objs.size + 4, [s1.heap.objs.size + 4, s1.heap.objs.size + 2, s1.heap.objs.size + 3, s1.heap.objs.size, s1.heap.objs.size + 1], _, _, H1, rfl, I2, turn_pair S (Nat.ne_of_lt la) (Nat.ne_of_lt (Nat.lt_succ_of_lt lb)),
    ⟨hz, hTI, ⟨_, _, hTO⟩, k1.start e1, k2.start e2⟩, fun c hc => ?_, q⟩
  have hle : s1.heap.objs.size ≤ c := by
    simp only [List.mem_cons, List.not_mem_nil, or_false] at hc
    rcases hc with z | z | z | z | z <;> rw [z]
    · exact Nat.le_add_right _ _
    · exact Nat.le_add_right _ _
    · exact Nat.le_add_right _ _
    · exact Nat.le_refl _
    · exact Nat.le_add_right _ _
  exact I1.fpOk hle (I1.hok.fresh hle)
end PB

/-! PN: enumerate over a list or a tuple. -/
namespace PB
open PySem PySem.Spec L2
open PyProof.Rows hiding St
set_option maxHeartbeats 8000000 in
theorem enum_new1 {v : Value} {o : Obj} {H : Heap → Prop} (B : Begins v o H) :
    Meets (Builtin.«enumerate.__new__» ⟨[.type "enumerate", v], []⟩) fun _ R s => H s.heap ∧
      R (.ok (.ret (.ref (s.heap.push o).objs.size))) { s with heap := (s.heap.push o).push { cls := .type "enumerate", data := .fields #[.none, .bool false, .ref s.heap.objs.size, rawInt 0, .none, .none] } } :=
  .of_wp fun prog w A R s h => by
    obtain ⟨hp, g, d, tk, os⟩ := s
    obtain ⟨h1, h⟩ := h
    have sb := sub_enumerate
    have q1 : ∀ {A' : Around} {E Q : Value → Shared → Prop}, Q (.ref hp.objs.size) ⟨hp.push o, g, d, tk, os⟩ → wpAny (model prog w) A' (pyIter v) Q E ⟨hp, g, d, tk, os⟩ := fun q => B.iter prog w _ _ ⟨hp, g, d, tk, os⟩ _ h1 q
    wp_walk using q1
    refine wpAny_stack_any fun st => wpAny_pure ?_
    split
    · rename_i c _ _ _ _ _
      cases (c == Value.type "enumerate") <;> (wp_walk using q1; exact ⟨_, rfl, h⟩)
    · wp_walk using q1
      exact ⟨_, rfl, h⟩
theorem enum_begins1 {prog : Program} {w : World} {A : Around} {E Q : Value → Shared → Prop} {s : Shared} {v : Value} {o : Obj} {H : Heap → Prop} (B : Begins v o H) (h1 : H s.heap)
    (h : ∀ h', IsEnum h' (s.heap.objs.size + 1) s.heap.objs.size 0 .none → h'.get? s.heap.objs.size = some o → (∀ b u, s.heap.get? b = some u → h'.get? b = some u) → Q (.ref (s.heap.objs.size + 1)) { s with heap := h' }) :
    wpAny (model prog w) A (call (.type "enumerate") [v]) Q E s := by
  refine callType_new F.called_enumerate (by decide) (F.typeCall_enumerate_1 _) (F.newCall_enumerate_1 _) (fun x => F.args_object_init_2 x _) F.entry_enumerate_new (enum_new1 B) ⟨h1, ?_⟩
  show _ ∧ _
  have hz : (s.heap.push o).objs.size = s.heap.objs.size + 1 := Heap.size_push ..
  rw [hz]
  have he : IsEnum ((s.heap.push o).push { cls := .type "enumerate", data := .fields #[.none, .bool false, .ref s.heap.objs.size, rawInt 0, .none, .none] }) (s.heap.objs.size + 1) s.heap.objs.size 0 .none := by
    rw [← hz]
    exact Heap.get?_push_size (s.heap.push o) rfl
  exact ⟨⟨_, he, rfl⟩, h _ he (Heap.get?_push_of_some _ (Heap.get?_push_size _ B.free)) fun b u x => Heap.get?_push_of_some _ (Heap.get?_push_of_some _ x)⟩
/-- the items of a source, each in a new pair with its index -/
def ItE (K : PySem.W.Frag) (k : Sk) (a : Addr) : It :=
  ⟨fun i H => ∃ (xs : List V) (x : V), k.at K H a xs ∧ xs[i]? = some x,
    fun i H v H' => ∃ T x, v = .ref T ∧ H T = none ∧ H' = upd H T (.tup [.int (i : Nat), x]) ∧ ∀ xs, k.at K H a xs → xs[i]? = some x,
    fun i H => ∃ xs : List V, k.at K H a xs ∧ i = xs.length⟩
theorem turn_num {P : Program} {w : World} {K : PySem.W.Frag} {elts : List Expr} {kk : Nat} {tpos : Pos} {k : Sk} {a e it : Addr} (n1 : a ≠ it) (n2 : e ≠ it) (n3 : e ≠ a) :
    Turn P w K (.Tuple elts kk tpos) (ItE K k a) [e, it] e (fun i h => (∃ old, IsEnum h e it ((0 : Int) + (i : Nat)) old) ∧ k.iter h it a i) where
  mem := by simp
  obj := fun i h st c hc => by
    obtain ⟨⟨old, he⟩, h1⟩ := st
    simp only [List.mem_cons, List.not_mem_nil, or_false] at hc
    rcases hc with q | q <;> subst q
    · exact ⟨_, he, fun v q => nomatch q⟩
    · exact k.there h1
  keep := fun i h h' st kp => by
    obtain ⟨⟨old, he⟩, h1⟩ := st
    exact ⟨⟨old, kp e (by simp) _ he⟩, k.keep h1 fun o q => kp it (by simp) o q⟩
  item := by
    intro X hP hw hK hc i pins s σ H E I hf st hg
    subst hP hw hK
    obtain ⟨he, h1⟩ := st
    obtain ⟨xs, x, qx, hx⟩ := hg
    obtain ⟨us, r1, p1, _⟩ := k.inv I qx
    have hh : X.A.in1.handled = none := I.ok.hd hc
    have W := GoesN.enumFrom (prog := X.prog) (w := X.w) (A := X.A) (elts := elts) (x1 := kk) (pos := tpos) 0 (k.draws hh it a n1 us.toArray) e n2 (by simp [n2, n3]) (by simp)
    have l1 : i < us.toArray.size := by
      have := (List.getElem?_eq_some_iff.mp hx).1
      rw [r1.length] at this
      simpa using this
    refine W.goes i s _ E l1 ⟨he, h1, p1⟩ fun v h' tk hY st' kp _ => ?_
    obtain ⟨T, t, u, rfl, hT, e1, o, eo, co, no, dO⟩ := hY
    obtain ⟨he', h1', _⟩ := st'
    have new : ObjOk X.prog X.w (upd H T (.tup [.int (i : Nat), x])) h' T (.tup [.int (i : Nat), x]) := by
      refine ⟨by show 2 ≤ sizeLine; decide, [.int (0 + (i : Nat)) t, u], .cons ⟨t, ?_⟩ (.cons (get_of r1 hx e1) .nil), ⟨o, eo, co, no, dO⟩⟩
      rw [Int.zero_add]
    have I1 : Inv X pins σ (upd H T (.tup [.int (i : Nat), x])) { s with heap := h', toks := tk } := I.turnedNew (ch := [e, it]) (fun c o hb q => kp c o hb q) hf hT new
    refine ⟨.ref T, _, I1, rfl, ⟨T, x, rfl, I.hok.fresh hT, rfl, fun l hl => by rw [k.inj I hl qx]; exact hx⟩, ⟨he', h1'⟩, fun c hc => ?_⟩
    have lt : c < s.heap.objs.size := by
      simp only [List.mem_cons, List.not_mem_nil, or_false] at hc
      rcases hc with q | q <;> subst q
      · obtain ⟨_, e⟩ := he; exact Heap.lt_size e
      · obtain ⟨_, e, _⟩ := k.there h1; exact Heap.lt_size e
    rw [upd_ne (Nat.ne_of_lt (Nat.lt_of_lt_of_le lt hT))]
    exact (hf c hc).1
  done := by
    intro X hP hw hK hc i pins s σ H E I hf st hg
    subst hP hw hK
    obtain ⟨he, h1⟩ := st
    obtain ⟨xs, qx, hi⟩ := hg
    obtain ⟨us, r1, p1, _⟩ := k.inv I qx
    have hh : X.A.in1.handled = none := I.ok.hd hc
    have W := GoesN.enumFrom (prog := X.prog) (w := X.w) (A := X.A) (elts := elts) (x1 := kk) (pos := tpos) 0 (k.draws hh it a n1 us.toArray) e n2 (by simp [n2, n3]) (by simp)
    have en : i = us.toArray.size := by
      rw [List.size_toArray, ← r1.length]
      exact hi
    subst en
    exact W.stops s _ E ⟨he, h1, p1⟩ fun h' tk kp _ => I.turnedL (ch := [e, it]) (fun c o hb q => kp c o hb q) hf
  self := fun A i s Q E st h => let ⟨⟨_, he⟩, _⟩ := st; wpAny_pyIter_enum he h
def iEnumM (K : PySem.W.Frag) (ta : TA) : TI := fun σ H R => ta σ H fun vs H1 => ∃ (k : Sk) (a : Addr) (xs : List V), vs = [.ref a] ∧ k.at K H1 a xs ∧ R (ItE K k a) H1
theorem pi_enumM {X : Cx} {e : Expr} {ta : TA} {p pos tpos : Pos} {elts : List Expr} {kk : Nat} (cl : X.calm = true) (hm : X.mg "enumerate" = none) (ha : PA X [e] ta) (hg : Gl X "enumerate" := by rfl) (hs : starEach [e] X.env = [(false, eval e X.env)] := by rfl) :
    PI X (.Tuple elts kk tpos) (.Call (.Name "enumerate" p) [e] [] pos) (iEnumM X.K ta) := by
  refine ⟨fun pins s σ H R I h => ?_⟩
  refine Call_ (ld_blt I hg hm boot_enumerate (PyProof.Rows.callWith_type1 (thn (ha.run pos pins s σ H _ I h) fun us s1 ⟨vs, H1, I1, r1, q1⟩ => ?_) hs rfl))
  obtain ⟨k, a, xs, ex, qx, q⟩ := q1
  subst ex
  rw [Vals.ref1 r1]
  obtain ⟨its, _, p1, la⟩ := k.inv I1 qx
  refine enum_begins1 (k.begins a its.toArray) p1 fun h' he e1 hk => wpAny_pyIter_enum he ?_
  have I2 : Inv X pins σ H1 { s1 with heap := h' } := I1.kept (t' := s1.toks) hk
  refine ⟨s1.heap.objs.size + 1, [s1.heap.objs.size + 1, s1.heap.objs.size], _, _, H1, rfl, I2, turn_num (Nat.ne_of_lt la) (Nat.succ_ne_self _) (Nat.ne_of_gt (Nat.lt_succ_of_lt la)), ⟨⟨.none, he⟩, k.start e1⟩, fun c hc => ?_, q⟩
  have hle : s1.heap.objs.size ≤ c := by
    simp only [List.mem_cons, List.not_mem_nil, or_false] at hc
    rcases hc with z | z <;> rw [z]
    · exact Nat.le_add_right _ _
    · exact Nat.le_refl _
  exact I1.fpOk hle (I1.hok.fresh hle)
/-- xs[i] read, for an xs[i] op= e -/
theorem get_list {X : Cx} : PGet X (rIxL X.K) := by
  intro pins s σ H o i ov iv Q I ro ri h
  obtain ⟨p, xs, k, z, rfl, rfl, hq, he, q⟩ := h
  obtain rfl : ov = Value.ref p := ro
  obtain ⟨t, rfl⟩ := (show ∃ t, iv = Value.int k t from ri)
  obtain ⟨its, r, pl, hz⟩ := I.list hq
  obtain ⟨j, h1, h2, h3, h4, h5⟩ := atI_get he
  obtain ⟨u, eu, ru⟩ := r.get h2
  have hl := r.length
  have hn := line63
  have fin : EP X pins σ Q u s := ⟨z, H, I, ru, q⟩
  by_cases h0 : 0 ≤ k
  · have hj : k.toNat = j := Option.some.inj ((seqIndex_of h0 h5).symm.trans h1)
    exact wpAny_getItem_list pl.isList h0 (by omega) (by rw [hj]; simpa using eu) fin
  · have hj : (k + (its.toArray.size : Int)).toNat = j := by
      rw [List.size_toArray, ← hl]
      exact Option.some.inj ((seqIndex_neg (by omega) h4).symm.trans h1)
    exact wpAny_getItem_list_neg pl.isList (by omega) (by rw [List.size_toArray] <;> omega) (by omega) (by rw [hj]; simpa using eu) fin
end PB

/-! PL: readings of loops, comprehensions, operators by kind. -/
namespace PB
open PySem PySem.Spec L2
open PyProof.Rows hiding St
section
variable {K : PySem.W.Frag} {H H' : Hp} {a p d : Addr} {xs ys : List V} {o : HO}
theorem sqL_of (h : H a = some (.lst xs)) : SqL K H a xs := .inl (.inl h)
theorem sqT_of (h : H a = some (.tup xs)) : SqT K H a xs := .inl (.inl h)
theorem sqL_new : SqL K (upd H p (.lst xs)) p xs := sqL_of upd_same
theorem sqT_new : SqT K (upd H p (.tup xs)) p xs := sqT_of upd_same
theorem sqL_ex (e : Ex H H') (h : SqL K H a xs) : SqL K H' a xs := e.sqL h
theorem sqT_ex (e : Ex H H') (h : SqT K H a xs) : SqT K H' a xs := e.sqT h
theorem sqL_up (n : H p = none) (h : SqL K H a xs) : SqL K (upd H p o) a xs := sqL_ex (Ex.new n) h
theorem sqT_up (n : H p = none) (h : SqT K H a xs) : SqT K (upd H p o) a xs := sqT_ex (Ex.new n) h
theorem at_ex {u : HO} (e : Ex H H') (h : H a = some u) : H' a = some u := e a u h
theorem at_up {u : HO} (n : H p = none) (h : H a = some u) : upd H p o a = some u := Ex.new n a u h
theorem free_up {q : Addr} (h : upd H p o q = none) (n : H p = none) : H q = none := (Ex.new (o := o) n).free h
/-- what stood elsewhere stands -/
theorem sqT_exb (e : ExB d H H') (n : a ≠ d) (h : SqT K H a xs) : SqT K H' a xs := by
  rcases h with (h | ⟨o, h⟩) | h
  · exact .inl (.inl (e _ _ n h))
  · exact .inl (.inr ⟨o, e _ _ n h⟩)
  · exact .inr h
theorem sqL_exb (e : ExB d H H') (n : a ≠ d) (h : SqL K H a xs) : SqL K H' a xs := by
  rcases h with (h | ⟨o, h⟩) | h
  · exact .inl (.inl (e _ _ n h))
  · exact .inl (.inr ⟨o, e _ _ n h⟩)
  · exact .inr h
/-- what is a tuple is no list of H -/
theorem sqT_ne {xs ys : List V} (h : SqT K H a xs) (hd : H d = some (.lst ys)) : a = d → ∃ o its n, K.lookup a = some o ∧ o.cls = .type "tuple" ∧ o.data = .seq its n ∧ its.size ≤ sizeLine ∧ Vals xs its.toList := fun e => by
  subst e
  rcases h with (h | ⟨o, h⟩) | h
  · rw [hd] at h; cases h
  · rw [hd] at h; cases h
  · exact h
end
section
variable {σ : St} {H : Hp} {Q : VK} {D : Ends} {K : PySem.W.Frag} {a b : Addr} {i j : Int}
/-! operators on ints -/
theorem r_addI (q : Q (.int (i + j)) H) : rAddA K (.int i) (.int j) H Q := .inl ⟨i, j, rfl, rfl, q⟩
theorem r_mulI (c : CMul i j) (q : Q (.int (i * j)) H) : rMulA K (.int i) (.int j) H Q := .inl ⟨i, j, rfl, rfl, c, q⟩
theorem r_mulT {l : Addr} {xs : List V} {k : Int} (h : SqT K H l xs) (c1 : xs ≠ []) (c2 : 2 ≤ k) (c3 : k ≤ 1000) (c4 : xs.length ≤ 1000) (q : ∀ p, H p = none → Q (.ref p) (upd H p (.tup (List.replicate k.toNat xs).flatten))) : rMulA K (.ref l) (.int k) H Q := .inr (.inr ⟨l, k, xs, rfl, rfl, h, c1, c2, c3, c4, q⟩)
theorem r_cmpI {g : Int → Int → Bool} {f : PyData → PyData → Bool} (q : Q (.bl (g i j)) H) : rCmpA K g f (.int i) (.int j) H Q := .inl ⟨i, j, rfl, rfl, q⟩
theorem r_eqI (q : Q (.bl (decide (i = j))) H) : rEqA K (.int i) (.int j) H Q := .inl ⟨rfl, by
  have e : decide (V.int i = V.int j) = decide (i = j) := decide_eq_decide.mpr ⟨fun h => V.int.inj h, fun h => by rw [h]⟩
  rw [e]; exact q⟩
theorem r_neI (q : Q (.bl (!decide (i = j))) H) : rNeA K (.int i) (.int j) H Q := .inl ⟨rfl, by
  have e : decide (V.int i = V.int j) = decide (i = j) := decide_eq_decide.mpr ⟨fun h => V.int.inj h, fun h => by rw [h]⟩
  rw [e]; exact q⟩
theorem r_modI (c : j ≠ 0) (q : Q (.int (i.fmod j)) H) : rI (fun _ j => j ≠ 0) (fun i j => .int (i.fmod j)) (.int i) (.int j) H Q := ⟨i, j, rfl, rfl, c, q⟩
theorem r_divI (c : CDivN i j) (q : Q (.int (i.fdiv j)) H) : rI CDivN (fun i j => .int (i.fdiv j)) (.int i) (.int j) H Q := ⟨i, j, rfl, rfl, c, q⟩
theorem r_powI (c : CPow i j) (q : Q (.int (i ^ j.toNat)) H) : rI CPow (fun i j => .int (i ^ j.toNat)) (.int i) (.int j) H Q := ⟨i, j, rfl, rfl, c, q⟩
/-! built-in functions -/
theorem r_sumL {ns : List Int} (h : SqL K H a (ns.map V.int)) (q : Q (.int ns.sum) H) : rSumA K [.ref a] H Q := .inl ⟨a, ns, rfl, h, q⟩
theorem r_sumT {ns : List Int} (h : SqT K H a (ns.map V.int)) (q : Q (.int ns.sum) H) : rSumA K [.ref a] H Q := .inr ⟨a, ns, rfl, h, q⟩
theorem r_all {bs : List Bool} (h : SqL K H a (bs.map V.bl)) (q : Q (.bl (bs.all id)) H) : rAll K [.ref a] H Q := ⟨a, bs, rfl, h, q⟩
theorem r_any {bs : List Bool} (h : SqL K H a (bs.map V.bl)) (q : Q (.bl (bs.any id)) H) : rAny K [.ref a] H Q := ⟨a, bs, rfl, h, q⟩
theorem r_max2 (q : Q (.int (max i j)) H) : rMax2A [V.int i, V.int j] H Q := ⟨i, j, rfl, by
  have e : (if j > i then j else i) = max i j := by omega
  rw [e]; exact q⟩
theorem r_min2 (q : Q (.int (min i j)) H) : rMin2A [V.int i, V.int j] H Q := ⟨i, j, rfl, by
  have e : (if j < i then j else i) = min i j := by omega
  rw [e]; exact q⟩
theorem r_abs (q : Q (.int (if i < 0 then -i else i)) H) : rAbsA [V.int i] H Q := ⟨i, rfl, q⟩
theorem r_int1 (q : Q (.int i) H) : rInt1A [V.int i] H Q := .inl ⟨i, rfl, q⟩
end
section
variable {H : Hp} {Q : VK} {K : PySem.W.Frag} {a : Addr} {xs : List V} {ns : List Int}
theorem r_isT (h : SqT K H a xs) (q : Q (.bl true) H) : rIsi K [.ref a, .ty "tuple"] H Q := r_isi (b := true) (.sqT h) rfl q
theorem r_lenL (h : SqL K H a xs) (q : Q (.int xs.length) H) : rLenA K [V.ref a] H Q := ⟨_, xs.length, rfl, .inl ⟨xs, h, rfl⟩, q⟩
theorem r_lenT (h : SqT K H a xs) (q : Q (.int xs.length) H) : rLenA K [V.ref a] H Q := ⟨_, xs.length, rfl, .inr ⟨xs, h, rfl⟩, q⟩
theorem r_lenLI (h : SqL K H a (ns.map V.int)) (q : Q (.int ns.length) H) : rLenA K [V.ref a] H Q := ⟨_, ns.length, rfl, .inl ⟨_, h, by rw [List.length_map]⟩, q⟩
theorem r_lenTI (h : SqT K H a (ns.map V.int)) (q : Q (.int ns.length) H) : rLenA K [V.ref a] H Q := ⟨_, ns.length, rfl, .inr ⟨_, h, by rw [List.length_map]⟩, q⟩
/-- tuple(list), ints -/
theorem r_tupL (h : SqL K H a xs) (q : ∀ p, H p = none → Q (.ref p) (upd H p (.tup xs))) : rTupA K [V.ref a] H Q := ⟨a, xs, rfl, .inl ⟨h, q⟩⟩
theorem r_tupT (h : SqT K H a xs) (q : Q (.ref a) H) : rTupA K [V.ref a] H Q := ⟨a, xs, rfl, .inr ⟨h, q⟩⟩
theorem r_listL (h : SqL K H a xs) (q : ∀ p, H p = none → Q (.ref p) (upd H p (.lst xs))) : rListA K [V.ref a] H Q := ⟨a, xs, rfl, .inl h, q⟩
theorem r_listT (h : SqT K H a xs) (q : ∀ p, H p = none → Q (.ref p) (upd H p (.lst xs))) : rListA K [V.ref a] H Q := ⟨a, xs, rfl, .inr h, q⟩
theorem r_ixL {i : Int} {v : V} (h : SqL K H a xs) (e : atI xs i = some v) (q : Q v H) : rIxA K (.ref a) (.int i) H Q := .inl ⟨a, xs, i, v, rfl, rfl, h, e, q⟩
theorem r_ixT {i : Int} {v : V} (h : SqT K H a xs) (e : atI xs i = some v) (q : Q v H) : rIxA K (.ref a) (.int i) H Q := .inr (.inl ⟨a, xs, i, v, rfl, rfl, h, e, q⟩)
theorem at_I {i : Nat} {n : Int} (h : ns[i]? = some n) : atI (ns.map V.int) (i : Int) = some (.int n) := atI_nat (by rw [List.getElem?_map, h]; rfl)
theorem r_ixLI {i : Nat} {n : Int} (h : SqL K H a (ns.map V.int)) (e : ns[i]? = some n) (q : Q (.int n) H) : rIxA K (.ref a) (.int (i : Nat)) H Q := r_ixL h (at_I e) q
theorem r_ixTI {i : Nat} {n : Int} (h : SqT K H a (ns.map V.int)) (e : ns[i]? = some n) (q : Q (.int n) H) : rIxA K (.ref a) (.int (i : Nat)) H Q := r_ixT h (at_I e) q
end
/-! loops: what a for asks of its walk, what a comprehension asks of it -/
def FQ (g : TG) (tb : TS) (D : Ends) (σ : St) : It → Hp → Prop := fun J H1 => ∃ W : Nat → Nat → St → Hp → Prop, (∃ m, W 0 m σ H1) ∧ ∀ i m σ H, W i m σ H →
  (J.stop i H ∧ D.nx σ H) ∨ (J.go i H ∧ ∃ N : St → Hp → Prop, (∀ σ' H', N σ' H' → ∃ m', m' < m ∧ W (i + 1) m' σ' H') ∧ ∀ x H', J.yld i H x H' → g x σ H' fun σ2 H2 => tb { D with nx := N, ct := N, bk := D.nx } σ2 H2)
def CQ (g : TG) (tt : TT) (te : TE) (vs : List Nat) (σ : St) (Q : VK) : It → Hp → Prop := fun J H1 => ∀ L, H1 L = none → ∃ W : Nat → Nat → Hp → Prop, (∃ m, W 0 m (upd H1 L (.lst []))) ∧ ∀ i m H, W i m H →
  (J.stop i H ∧ Q (.ref L) H) ∨ (J.go i H ∧ ∃ Nx : Hp → Prop, (∀ H', Nx H' → ∃ m', m' < m ∧ W (i + 1) m' H') ∧ ∀ x H', J.yld i H x H' → g x (wipe σ vs) H' fun σ2 H2 => wipe σ2 vs = wipe σ vs ∧ tt σ2 H2 fun b H3 =>
    if b = true then te σ2 H3 fun y H4 => ∃ acc, H4 L = some (.lst acc) ∧ acc.length < sizeLine ∧ Nx (upd H4 L (.lst (acc ++ [y]))) else Nx H3)
def sQ (K : PySem.W.Frag) (R : It → Hp → Prop) : VK := fun x H1 => ∃ a xs, x = .ref a ∧ ((SqL K H1 a xs ∧ R (Itl K a) H1) ∨ (SqT K H1 a xs ∧ R (Itt K a) H1))
def zQ (K : PySem.W.Frag) (R : It → Hp → Prop) : List V → Hp → Prop := fun vs H1 => ∃ (k1 k2 : Sk) (a b : Addr) (xs ys : List V), vs = [.ref a, .ref b] ∧ k1.at K H1 a xs ∧ k2.at K H1 b ys ∧ R (ItP K k1 k2 a b) H1
def eQ (K : PySem.W.Frag) (R : It → Hp → Prop) : List V → Hp → Prop := fun vs H1 => ∃ (k : Sk) (a : Addr) (xs : List V), vs = [.ref a] ∧ k.at K H1 a xs ∧ R (ItE K k a) H1
def nQ1 (R : It → Hp → Prop) : List V → Hp → Prop := fun vs H1 => ∃ j : Int, vs = [.int j] ∧ -(2 ^ 62) ≤ j ∧ j < 2 ^ 62 ∧ R (Itr 0 j.toNat) H1
def nQ2 (R : It → Hp → Prop) : List V → Hp → Prop := fun vs H1 => ∃ i j : Int, vs = [.int i, .int j] ∧ (-(2 ^ 62) ≤ i ∧ i < 2 ^ 62 ∧ -(2 ^ 62) ≤ j ∧ j < 2 ^ 62) ∧ R (Itr i (j - i).toNat) H1
section
variable {σ : St} {H : Hp} {Q : VK} {D : Ends} {K : PySem.W.Frag} {wi : TI} {tl : TE} {ta : TA} {g : TG} {tb : TS} {tt : TT} {te : TE} {vs : List Nat} {R : It → Hp → Prop}
theorem r_yes {Q : Bool → Hp → Prop} (h : Q true H) : tYes σ H Q := h
theorem r_for (h : wi σ H (FQ g tb D σ)) : tFor wi g tb D σ H := h
theorem r_lc (h : wi σ H (CQ g tt te vs σ Q)) : tLc wi g tt te vs σ H Q := h
theorem r_iSeq (h : tl σ H (sQ K R)) : iSeq K tl σ H R := h
theorem r_iZip (h : ta σ H (zQ K R)) : iZipM K ta σ H R := h
theorem r_iEnum (h : ta σ H (eQ K R)) : iEnumM K ta σ H R := h
theorem r_iRng1 (h : ta σ H (nQ1 R)) : iRng1 ta σ H R := h
theorem r_iRng2 (h : ta σ H (nQ2 R)) : iRng2 ta σ H R := h
end
section
variable {H : Hp} {K : PySem.W.Frag} {R : It → Hp → Prop} {a b : Addr} {xs ys : List V}
def ItS (K : PySem.W.Frag) : Sk → Addr → It
  | .l, a => Itl K a
  | .t, a => Itt K a
theorem walk_S {k : Sk} : Walk (ItS K k a) xs.length (fun H => k.at K H a xs) (YAt xs) := by
  cases k with
  | l => exact walk_list
  | t => exact walk_tup
theorem s_S {k : Sk} (h : k.at K H a xs) (r : R (ItS K k a) H) : sQ K R (.ref a) H := by
  cases k with
  | l => exact ⟨a, xs, rfl, .inl ⟨h, r⟩⟩
  | t => exact ⟨a, xs, rfl, .inr ⟨h, r⟩⟩
theorem s_L (h : SqL K H a xs) (r : R (Itl K a) H) : sQ K R (.ref a) H := ⟨a, xs, rfl, .inl ⟨h, r⟩⟩
theorem s_T (h : SqT K H a xs) (r : R (Itt K a) H) : sQ K R (.ref a) H := ⟨a, xs, rfl, .inr ⟨h, r⟩⟩
theorem z_P {k1 k2 : Sk} (h1 : k1.at K H a xs) (h2 : k2.at K H b ys) (r : R (ItP K k1 k2 a b) H) : zQ K R [.ref a, .ref b] H := ⟨k1, k2, a, b, xs, ys, rfl, h1, h2, r⟩
theorem e_P {k : Sk} (h : k.at K H a xs) (r : R (ItE K k a) H) : eQ K R [.ref a] H := ⟨k, a, xs, rfl, h, r⟩
theorem n_1 {n : Int} (h : -(2 ^ 62) ≤ n ∧ n < 2 ^ 62) (r : R (Itr 0 n.toNat) H) : nQ1 R [.int n] H := ⟨n, rfl, h.1, h.2, r⟩
theorem n_2 {m n : Int} (h : -(2 ^ 62) ≤ m ∧ m < 2 ^ 62 ∧ -(2 ^ 62) ≤ n ∧ n < 2 ^ 62) (r : R (Itr m (n - m).toNat) H) : nQ2 R [.int m, .int n] H := ⟨m, n, rfl, h, r⟩
theorem walk_P {k1 k2 : Sk} {n : Nat} (hn : n = min xs.length ys.length) : Walk (ItP K k1 k2 a b) n (fun H => k1.at K H a xs ∧ k2.at K H b ys) (YPair (fun i => xs[i]?) (fun i => ys[i]?)) := by
  subst hn
  refine ⟨fun i _ hi q => ?_, fun _ q => ⟨xs, ys, q.1, q.2, rfl⟩, fun i H v H' _ q y => ?_⟩
  · have h1 : i < xs.length := by omega
    have h2 : i < ys.length := by omega
    exact ⟨xs, ys, xs[i], ys[i], q.1, q.2, List.getElem?_eq_getElem h1, List.getElem?_eq_getElem h2⟩
  · obtain ⟨T, x, z, h1, h2, h3, h4, h5⟩ := y
    exact ⟨T, x, z, h1, h2, h3, h4 xs q.1, h5 ys q.2⟩
theorem walk_E {k : Sk} : Walk (ItE K k a) xs.length (fun H => k.at K H a xs) (YPair (fun i => some (.int (i : Nat))) (fun i => xs[i]?)) := by
  refine ⟨fun i _ hi q => ⟨xs, xs[i], q, List.getElem?_eq_getElem hi⟩, fun _ q => ⟨xs, q, rfl⟩, fun i H v H' _ q y => ?_⟩
  obtain ⟨T, x, h1, h2, h3, h4⟩ := y
  exact ⟨T, .int (i : Nat), x, h1, h2, h3, rfl, h4 xs q⟩
end
/-! a for by its walk -/
section
variable {σ : St} {H : Hp} {D : Ends} {K : PySem.W.Frag} {g : TG} {tb : TS} {J : It} {n : Nat} {G : Hp → Prop} {Y : Nat → Hp → V → Hp → Prop}
theorem f_it (w : Walk J n G Y) (Pv : Nat → St → Hp → Prop) (h0 : Pv 0 σ H) (hG : ∀ i σ H, i ≤ n → Pv i σ H → G H)
    (hs : ∀ i x σ H H', i < n → Pv i σ H → Y i H x H' → g x σ H' fun σ2 H2 => tb { D with nx := Pv (i + 1), ct := Pv (i + 1), bk := D.nx } σ2 H2) (hd : ∀ σ H, Pv n σ H → D.nx σ H) : FQ g tb D σ J H := for_it w Pv h0 hG hs hd
/-- a range by one name -/
theorem f_rng {lo : Int} {j : Nat} (Pv : Nat → St → Hp → Prop) (h0 : Pv 0 σ H)
    (hs : ∀ (i : Nat) σ H, i < n → Pv i σ H → tb { D with nx := Pv (i + 1), ct := Pv (i + 1), bk := D.nx } (σ.set j (some (.int (lo + i)))) H) (hd : ∀ σ H, Pv n σ H → D.nx σ H) : FQ (gName j) tb D σ (Itr lo n) H :=
  for_range Pv h0 (fun i σ H hi p => hs i σ H hi p) hd
/-- a list or a tuple by one name -/
theorem f_seq {k : Sk} {a : Addr} {xs : List V} {j : Nat} (h : k.at K H a xs) (Pv : Nat → St → Hp → Prop) (h0 : Pv 0 σ H) (hG : ∀ i σ H, i ≤ xs.length → Pv i σ H → k.at K H a xs)
    (hs : ∀ i x σ H, xs[i]? = some x → Pv i σ H → tb { D with nx := Pv (i + 1), ct := Pv (i + 1), bk := D.nx } (σ.set j (some x)) H) (hd : ∀ σ H, Pv xs.length σ H → D.nx σ H) : sQ K (FQ (gName j) tb D σ) (.ref a) H :=
  s_S h (f_it walk_S Pv h0 hG (fun i x σ H H' _ p y => by
    obtain ⟨e, y⟩ := y
    subst e
    exact hs i x σ H' y p) hd)
/-- a pair's two names -/
theorem g_two {σ : St} {H : Hp} {K : PySem.W.Frag} {i j : Nat} {T : Addr} {x y : V} {Q : St → Hp → Prop} (q : Q ((σ.set i (some x)).set j (some y)) (upd H T (.tup [x, y]))) : gTup K 2 (gCons (gName i) (gCons (gName j) gNil)) (.ref T) σ (upd H T (.tup [x, y])) Q :=
  ⟨T, [x, y], rfl, sqT_new, rfl, x, [y], rfl, y, [], rfl, rfl, q⟩
/-- enumerate by two names -/
theorem f_enum {k : Sk} {a : Addr} {xs : List V} {j l : Nat} (h : k.at K H a xs) (Pv : Nat → St → Hp → Prop) (h0 : Pv 0 σ H) (hG : ∀ i σ H, i ≤ xs.length → Pv i σ H → k.at K H a xs)
    (hs : ∀ (i : Nat) x T σ H, xs[i]? = some x → Pv i σ H → H T = none → tb { D with nx := Pv (i + 1), ct := Pv (i + 1), bk := D.nx } ((σ.set j (some (.int (i : Nat)))).set l (some x)) (upd H T (.tup [.int (i : Nat), x]))) (hd : ∀ σ H, Pv xs.length σ H → D.nx σ H) :
    eQ K (FQ (gTup K 2 (gCons (gName j) (gCons (gName l) gNil))) tb D σ) [.ref a] H :=
  e_P h (f_it walk_E Pv h0 hG (fun i x σ H H' _ p y => by
    obtain ⟨T, u, v, e1, h1, e2, e3, e4⟩ := y
    obtain rfl := Option.some.inj e3
    subst e1 e2
    exact g_two (hs i v T σ H e4 p h1)) hd)
/-- zip by two names -/
theorem f_zip {k1 k2 : Sk} {a b : Addr} {xs ys : List V} {j l : Nat} (h1 : k1.at K H a xs) (h2 : k2.at K H b ys) (hn : n = min xs.length ys.length) (Pv : Nat → St → Hp → Prop) (h0 : Pv 0 σ H) (hG : ∀ i σ H, i ≤ n → Pv i σ H → k1.at K H a xs ∧ k2.at K H b ys)
    (hs : ∀ (i : Nat) x y T σ H, xs[i]? = some x → ys[i]? = some y → Pv i σ H → H T = none → tb { D with nx := Pv (i + 1), ct := Pv (i + 1), bk := D.nx } ((σ.set j (some x)).set l (some y)) (upd H T (.tup [x, y]))) (hd : ∀ σ H, Pv n σ H → D.nx σ H) :
    zQ K (FQ (gTup K 2 (gCons (gName j) (gCons (gName l) gNil))) tb D σ) [.ref a, .ref b] H :=
  z_P h1 h2 (f_it (walk_P hn) Pv h0 hG (fun i x σ H H' _ p y => by
    obtain ⟨T, u, v, e1, h1, e2, e3, e4⟩ := y
    subst e1 e2
    exact g_two (hs i u v T σ H e3 e4 p h1)) hd)
end
/-! a comprehension by its walk -/
section
variable {σ : St} {H : Hp} {Q : VK} {K : PySem.W.Frag} {g : TG} {tt : TT} {te : TE} {vs : List Nat} {J : It} {n : Nat} {G : Hp → Prop} {Y : Nat → Hp → V → Hp → Prop}
/-- nothing that stood changes; Φ is told of the items so far -/
theorem c_it (w : Walk J n G Y) (hn : n < 16000000) (hG : ∀ H', Ex H H' → G H') (Φ : Nat → List V → Hp → Prop) (h0 : ∀ H', Ex H H' → Φ 0 [] H')
    (st : ∀ L i acc H1 u u', H1 L = some (.lst u) → H L = none → Φ i acc H1 → Φ i acc (upd H1 L (.lst u')))
    (turn : ∀ i x acc H1 H2 (q : VK) (N : Hp → Prop), i < n → Ex H H1 → Φ i acc H1 → Y i H1 x H2 → (∀ y H4, Ex H1 H4 → Φ (i + 1) (acc ++ [y]) H4 → q y H4) → (∀ H3, Ex H1 H3 → Φ (i + 1) acc H3 → N H3) →
      g x (wipe σ vs) H2 fun σ2 H3 => wipe σ2 vs = wipe σ vs ∧ tt σ2 H3 fun b H4 => if b = true then te σ2 H4 q else N H4)
    (done : ∀ L acc H', H L = none → Ex H H' → H' L = some (.lst acc) → acc.length ≤ n → Φ n acc H' → Q (.ref L) H') : CQ g tt te vs σ Q J H := by
  intro L hL
  refine lc_it w (fun i H' => ∃ acc, Ex H H' ∧ H' L = some (.lst acc) ∧ acc.length ≤ i ∧ Φ i acc H') ⟨[], Ex.new hL, upd_same, Nat.le_refl _, h0 _ (Ex.new hL)⟩ (fun i H' _ p => hG H' p.choose_spec.1) ?_ ?_
  · rintro i x H1 H2 hi ⟨acc, e1, e2, e3, e4⟩ y
    refine turn i x acc H1 H2 _ _ hi e1 e4 y (fun z H4 e5 e6 => ⟨acc, e5 _ _ e2, Nat.lt_of_le_of_lt (Nat.le_trans e3 (by omega)) (show 16000000 < sizeLine by decide), acc ++ [z], ?_, upd_same, ?_, st L _ _ _ acc _ (e5 _ _ e2) hL e6⟩) fun H3 e5 e6 => ⟨acc, e1.trans e5, e5 _ _ e2, Nat.le_succ_of_le e3, e6⟩
    · intro b o hb
      have hne : b ≠ L := fun z => by rw [z, hL] at hb; cases hb
      exact (upd_ne hne).trans ((e1.trans e5) b o hb)
    · rw [List.length_append, List.length_singleton]; omega
  · rintro H' ⟨acc, e1, e2, e3, e4⟩
    exact done L acc H' hL e1 e2 e3 e4
/-- what each turn gives is known ahead: f i, or nothing -/
theorem c_fn (w : Walk J n G Y) (f : Nat → Option V) (hn : n < 16000000) (hG : ∀ H', Ex H H' → G H')
    (turn : ∀ i x H1 H2 (q : VK) (N : Hp → Prop), i < n → Ex H H1 → Y i H1 x H2 → (∀ y H4, f i = some y → Ex H1 H4 → q y H4) → (∀ H3, f i = none → Ex H1 H3 → N H3) →
      g x (wipe σ vs) H2 fun σ2 H3 => wipe σ2 vs = wipe σ vs ∧ tt σ2 H3 fun b H4 => if b = true then te σ2 H4 q else N H4)
    (done : ∀ L H', H L = none → Ex H H' → H' L = some (.lst ((List.range n).filterMap f)) → Q (.ref L) H') : CQ g tt te vs σ Q J H := by
  refine c_it w hn hG (fun i acc _ => acc = (List.range i).filterMap f) (fun _ _ => rfl) (fun _ _ _ _ _ _ _ _ e => e) ?_ ?_
  · intro i x acc H1 H2 q N hi e1 e2 y hq hN
    refine turn i x H1 H2 q N hi e1 y (fun z H4 e3 e4 => hq z H4 e4 ?_) fun H3 e3 e4 => hN H3 e4 ?_
    · rw [List.range_succ, List.filterMap_append, ← e2]
      show _ = acc ++ (List.filterMap f [i])
      rw [List.filterMap_cons, e3]; rfl
    · rw [List.range_succ, List.filterMap_append, ← e2]
      show _ = acc ++ (List.filterMap f [i])
      rw [List.filterMap_cons, e3]; exact (List.append_nil _).symm
  · intro L acc H' hL e1 e2 _ e4
    rw [e4] at e2
    exact done L H' hL e1 e2
theorem range_fm {α β : Type} (xs : List β) (h : β → Option α) : (List.range xs.length).filterMap (fun i => xs[i]?.bind h) = xs.filterMap h := by
  induction xs with
  | nil => rfl
  | cons x xs ih =>
    rw [List.length_cons, List.range_succ_eq_map, List.filterMap_cons, List.filterMap_map]
    show (match h x with | none => _ | some b => _) = _
    rw [List.filterMap_cons, ← ih]; rfl
/-- over a list or a tuple, by one name, what it gives is a function of the item -/
theorem c_seq {k : Sk} {a : Addr} {xs : List V} {j : Nat} (h : k.at K H a xs) (f : V → Option V) (hn : xs.length < 16000000) (hG : ∀ H', Ex H H' → k.at K H' a xs) (hw : ∀ x, wipe ((wipe σ vs).set j (some x)) vs = wipe σ vs)
    (turn : ∀ x H1 (q : VK) (N : Hp → Prop), x ∈ xs → Ex H H1 → (∀ y H4, f x = some y → Ex H1 H4 → q y H4) → (∀ H3, f x = none → Ex H1 H3 → N H3) →
      tt ((wipe σ vs).set j (some x)) H1 fun b H4 => if b = true then te ((wipe σ vs).set j (some x)) H4 q else N H4)
    (done : ∀ L H', H L = none → Ex H H' → H' L = some (.lst (xs.filterMap f)) → Q (.ref L) H') : sQ K (CQ (gName j) tt te vs σ Q) (.ref a) H :=
  s_S h (c_fn walk_S (fun i => xs[i]?.bind f) hn hG (fun i x H1 H2 q N hi e1 y hq hN => by
    obtain ⟨e2, y⟩ := y
    subst e2
    refine ⟨hw x, turn x H2 q N (List.mem_of_getElem? y) e1 (fun z H4 e3 e4 => hq z H4 (by rw [y]; exact e3) e4) fun H3 e3 e4 => hN H3 (by rw [y]; exact e3) e4⟩)
    (fun L H' h1 h2 h3 => done L H' h1 h2 (by rw [← range_fm]; exact h3)))
/-- over zip, by two names -/
theorem c_zip {k1 k2 : Sk} {a b : Addr} {xs ys : List V} {j l : Nat} (h1 : k1.at K H a xs) (h2 : k2.at K H b ys) (f : V → V → Option V) (hl : xs.length = ys.length) (hn : xs.length < 16000000) (hG : ∀ H', Ex H H' → k1.at K H' a xs ∧ k2.at K H' b ys)
    (hw : ∀ x y, wipe (((wipe σ vs).set j (some x)).set l (some y)) vs = wipe σ vs)
    (turn : ∀ x y T H1 (q : VK) (N : Hp → Prop), (x, y) ∈ xs.zip ys → Ex H H1 → H1 T = none → (∀ z H4, f x y = some z → Ex H1 H4 → q z H4) → (∀ H3, f x y = none → Ex H1 H3 → N H3) →
      tt (((wipe σ vs).set j (some x)).set l (some y)) (upd H1 T (.tup [x, y])) fun b H4 => if b = true then te (((wipe σ vs).set j (some x)).set l (some y)) H4 q else N H4)
    (done : ∀ L H', H L = none → Ex H H' → H' L = some (.lst ((xs.zip ys).filterMap fun z => f z.1 z.2)) → Q (.ref L) H') : zQ K (CQ (gTup K 2 (gCons (gName j) (gCons (gName l) gNil))) tt te vs σ Q) [.ref a, .ref b] H := by
  have hz : (xs.zip ys).length = xs.length := by rw [List.length_zip]; omega
  refine z_P h1 h2 (c_fn (walk_P (n := xs.length) (by omega)) (fun i => (xs.zip ys)[i]?.bind fun z => f z.1 z.2) hn hG (fun i x H1 H2 q N hi e1 y hq hN => ?_) (fun L H' h1 h2 h3 => done L H' h1 h2 ?_))
  · obtain ⟨T, u, v, e2, e3, e4, e5, e6⟩ := y
    subst e2 e4
    have ez : (xs.zip ys)[i]? = some (u, v) := by
      rw [List.getElem?_zip_eq_some]
      exact ⟨e5, e6⟩
    exact g_two ⟨hw u v, turn u v T H1 q N (List.mem_of_getElem? ez) e1 e3 (fun z H4 e7 e8 => hq z H4 (by rw [ez]; exact e7) e8) fun H3 e7 e8 => hN H3 (by rw [ez]; exact e7) e8⟩
  · rw [← hz] at h3
    rw [h3]
    rw [range_fm (xs.zip ys) fun z => f z.1 z.2]
theorem Sk.ex {H H' : Hp} {a : Addr} {xs : List V} (k : Sk) (e : Ex H H') (h : k.at K H a xs) : k.at K H' a xs := by
  cases k with
  | l => exact sqL_ex e h
  | t => exact sqT_ex e h
/-- ints to ints -/
theorem c_seqI {k : Sk} {a : Addr} {ns : List Int} {j : Nat} (h : k.at K H a (ns.map V.int)) (f : Int → Int) (hn : ns.length < 16000000) (hw : ∀ x, wipe ((wipe σ vs).set j (some x)) vs = wipe σ vs)
    (turn : ∀ x H1 (q : VK) (N : Hp → Prop), x ∈ ns → Ex H H1 → (∀ H4, Ex H1 H4 → q (.int (f x)) H4) → tt ((wipe σ vs).set j (some (.int x))) H1 fun b H4 => if b = true then te ((wipe σ vs).set j (some (.int x))) H4 q else N H4)
    (done : ∀ L H', H L = none → Ex H H' → H' L = some (.lst ((ns.map f).map V.int)) → Q (.ref L) H') : sQ K (CQ (gName j) tt te vs σ Q) (.ref a) H := by
  refine c_seq h (fun v => match v with | .int i => some (.int (f i)) | _ => none) (by rw [List.length_map]; exact hn) (fun H' e => k.ex e h) hw (fun x H1 q N hx e hq _ => ?_) fun L H' h1 h2 h3 => done L H' h1 h2 ?_
  · obtain ⟨n, hn, rfl⟩ := List.mem_map.mp hx
    exact turn n H1 q N hn e fun H4 e4 => hq _ H4 rfl e4
  · rw [h3]
    congr 2
    clear h3 h hn turn done
    induction ns with
    | nil => rfl
    | cons n ns ih => rw [List.map_cons, List.filterMap_cons, ih]; rfl
/-- ints to truths -/
theorem c_seqB {k : Sk} {a : Addr} {ns : List Int} {j : Nat} (h : k.at K H a (ns.map V.int)) (f : Int → Bool) (hn : ns.length < 16000000) (hw : ∀ x, wipe ((wipe σ vs).set j (some x)) vs = wipe σ vs)
    (turn : ∀ x H1 (q : VK) (N : Hp → Prop), x ∈ ns → Ex H H1 → (∀ H4, Ex H1 H4 → q (.bl (f x)) H4) → tt ((wipe σ vs).set j (some (.int x))) H1 fun b H4 => if b = true then te ((wipe σ vs).set j (some (.int x))) H4 q else N H4)
    (done : ∀ L H', H L = none → Ex H H' → H' L = some (.lst ((ns.map f).map V.bl)) → Q (.ref L) H') : sQ K (CQ (gName j) tt te vs σ Q) (.ref a) H := by
  refine c_seq h (fun v => match v with | .int i => some (.bl (f i)) | _ => none) (by rw [List.length_map]; exact hn) (fun H' e => k.ex e h) hw (fun x H1 q N hx e hq _ => ?_) fun L H' h1 h2 h3 => done L H' h1 h2 ?_
  · obtain ⟨n, hn, rfl⟩ := List.mem_map.mp hx
    exact turn n H1 q N hn e fun H4 e4 => hq _ H4 rfl e4
  · rw [h3]
    congr 2
    clear h3 h hn turn done
    induction ns with
    | nil => rfl
    | cons n ns ih => rw [List.map_cons, List.filterMap_cons, ih]; rfl
theorem zip_I (f : Int → Int → Int) : ∀ gs as : List Int, (((gs.map V.int).zip (as.map V.int)).filterMap fun z => (match z.1, z.2 with | .int i, .int j => some (V.int (f i j)) | _, _ => none)) = ((gs.zip as).map fun p => f p.1 p.2).map V.int
  | [], _ => rfl
  | _ :: _, [] => rfl
  | g :: gs, a :: as => by
    rw [List.map_cons, List.map_cons, List.zip_cons_cons, List.zip_cons_cons, List.filterMap_cons, zip_I f gs as]; rfl
theorem mem_zipI : ∀ {gs as : List Int} {x y : V}, (x, y) ∈ (gs.map V.int).zip (as.map V.int) → ∃ i j, x = .int i ∧ y = .int j ∧ (i, j) ∈ gs.zip as
  | [], _, x, y, h => by rw [List.map_nil, List.zip_nil_left] at h; cases h
  | _ :: _, [], x, y, h => by rw [List.map_nil, List.zip_nil_right] at h; cases h
  | g :: gs, a :: as, x, y, h => by
    rw [List.map_cons, List.map_cons, List.zip_cons_cons, List.mem_cons] at h
    rcases h with h | h
    · cases h; exact ⟨g, a, rfl, rfl, List.mem_cons_self ..⟩
    · obtain ⟨i, j, h1, h2, h3⟩ := mem_zipI h
      exact ⟨i, j, h1, h2, List.mem_cons_of_mem _ h3⟩
/-- two sources of ints to ints -/
theorem c_zipI {k1 k2 : Sk} {a b : Addr} {gs as : List Int} {j l : Nat} (h1 : k1.at K H a (gs.map V.int)) (h2 : k2.at K H b (as.map V.int)) (f : Int → Int → Int) (hl : gs.length = as.length) (hn : gs.length < 16000000)
    (hw : ∀ x y, wipe (((wipe σ vs).set j (some x)).set l (some y)) vs = wipe σ vs)
    (turn : ∀ x y T H1 (q : VK) (N : Hp → Prop), (x, y) ∈ gs.zip as → Ex H H1 → H1 T = none → (∀ H4, Ex H1 H4 → q (.int (f x y)) H4) →
      tt (((wipe σ vs).set j (some (.int x))).set l (some (.int y))) (upd H1 T (.tup [.int x, .int y])) fun b H4 => if b = true then te (((wipe σ vs).set j (some (.int x))).set l (some (.int y))) H4 q else N H4)
    (done : ∀ L H', H L = none → Ex H H' → H' L = some (.lst (((gs.zip as).map fun p => f p.1 p.2).map V.int)) → Q (.ref L) H') : zQ K (CQ (gTup K 2 (gCons (gName j) (gCons (gName l) gNil))) tt te vs σ Q) [.ref a, .ref b] H := by
  refine c_zip h1 h2 (fun u v => match u, v with | .int i, .int j => some (V.int (f i j)) | _, _ => none) (by rw [List.length_map, List.length_map]; exact hl) (by rw [List.length_map]; exact hn) (fun H' e => ⟨k1.ex e h1, k2.ex e h2⟩) hw (fun x y T H1 q N hx e hT hq _ => ?_)
    fun L H' d1 d2 d3 => done L H' d1 d2 (by rw [d3, zip_I])
  obtain ⟨i, j, rfl, rfl, hm⟩ := mem_zipI hx
  exact turn i j T H1 q N hm e hT fun H4 e4 => hq _ H4 rfl e4
end
section
variable {σ : St} {H : Hp} {D : Ends} {c : TT} {tb : TS} {ta : TA} {i j : Nat} {x y : V}
theorem r_while (W : Nat → St → Hp → Prop) (m : Nat) (h0 : W m σ H)
    (hs : ∀ m σ H, W m σ H → c σ H fun b H1 => if b = true then ∃ N : St → Hp → Prop, (∀ σ' H', N σ' H' → ∃ m', m' < m ∧ W m' σ' H') ∧ tb { D with nx := N, ct := N, bk := D.nx } σ H1 else D.nx σ H1) : tWhile c tb D σ H := ⟨W, ⟨m, h0⟩, hs⟩
theorem r_wN {W : Nat → St → Hp → Prop} {m : Nat} (q : tb { D with nx := fun σ' H' => ∃ m', m' < m ∧ W m' σ' H', ct := fun σ' H' => ∃ m', m' < m ∧ W m' σ' H', bk := D.nx } σ H) :
    ∃ N : St → Hp → Prop, (∀ σ' H', N σ' H' → ∃ m', m' < m ∧ W m' σ' H') ∧ tb { D with nx := N, ct := N, bk := D.nx } σ H := ⟨_, fun _ _ p => p, q⟩
def pQ (i j : Nat) (D : Ends) (σ : St) : List V → Hp → Prop := fun vs H1 => ∃ v w, vs = [v, w] ∧ D.nx ((σ.set i (some v)).set j (some w)) H1
theorem r_par (h : ta σ H (pQ i j D σ)) : tPar i j ta D σ H := h
theorem r_pQ (h : D.nx ((σ.set i (some x)).set j (some y)) H) : pQ i j D σ [x, y] H := ⟨x, y, rfl, h⟩
theorem ix_nat {n i : Nat} (h : i < n) : ixN n (i : Int) = some i := by
  unfold ixN
  rw [if_pos (by omega), if_pos (by omega)]; simp
theorem r_setL {p : Addr} {xs : List V} {i : Nat} {v : V} {H : Hp} {Q : Hp → Prop} (h : H p = some (.lst xs)) (n : i < xs.length) (q : Q (upd H p (.lst (xs.set i v)))) : rSetL (.ref p) (.int (i : Nat)) v H Q := ⟨p, xs, _, i, rfl, rfl, h, ix_nat n, q⟩
theorem r_getL {K : PySem.W.Frag} {p : Addr} {xs : List V} {i : Nat} {v : V} {H : Hp} {Q : VK} (h : SqL K H p xs) (e : xs[i]? = some v) (q : Q v H) : rIxL K (.ref p) (.int (i : Nat)) H Q := ⟨p, xs, _, v, rfl, rfl, h, atI_nat e, q⟩
theorem r_augS {to ti te : TE} {tget : V → V → Hp → VK → Prop} {tip : TIp} {tset : TSet} (h : to σ H fun o H1 => ti σ H1 fun i H2 => tget o i H2 fun x H3 => te σ H3 fun y H4 => tip x y H4 fun z H5 => tset o i z H5 fun H6 => D.nx σ H6) : tAugS to ti te tget tip tset D σ H := h
theorem r_gsub {to ti : TE} {t : TSet} {v : V} {Q : St → Hp → Prop} (h : to σ H fun o H1 => ti σ H1 fun i H2 => t o i v H2 fun H3 => Q σ H3) : gSub to ti t v σ H Q := h
theorem r_sl {r : V → Option Int → Option Int → Hp → VK → Prop} {te : TE} {tl th : TO} {Q : VK} (h : te σ H fun x H1 => tl σ H1 fun l H2 => th σ H2 fun u H3 => r x l u H3 Q) : tSl r te tl th σ H Q := h
theorem r_part {t : TE} {Q : Option Int → Hp → Prop} (h : t σ H fun x H1 => ∃ i, x = .int i ∧ Q (some i) H1) : tPart t σ H Q := h
theorem r_nopart {Q : Option Int → Hp → Prop} (h : Q none H) : tNoPart σ H Q := h
theorem r_parI {n : Int} {P : Int → Prop} (h : P n) : ∃ i, V.int n = .int i ∧ P i := ⟨n, rfl, h⟩
end
section
variable {H : Hp} {Q : VK} {K : PySem.W.Frag} {a b : Addr} {xs ys : List V} {ns : List Int}
theorem r_ixS {k : Sk} {i : Nat} {v : V} (h : k.at K H a xs) (e : xs[i]? = some v) (q : Q v H) : rIxA K (.ref a) (.int (i : Nat)) H Q := by
  cases k with
  | l => exact r_ixL h (atI_nat e) q
  | t => exact r_ixT h (atI_nat e) q
theorem r_lenS {k : Sk} (h : k.at K H a xs) (q : Q (.int xs.length) H) : rLenA K [V.ref a] H Q := by
  cases k with
  | l => exact r_lenL h q
  | t => exact r_lenT h q
theorem Sk.exb {H H' : Hp} {a d : Addr} {xs : List V} (k : Sk) (e : ExB d H H') (n : a ≠ d) (h : k.at K H a xs) : k.at K H' a xs := by
  cases k with
  | l => exact sqL_exb e n h
  | t => exact sqT_exb e n h
theorem cut_map (lo hi : Option Int) : ∃ m n, cutV (ns.map V.int) lo hi = ((ns.drop m).take n).map V.int := ⟨_, _, by
  unfold cutV
  rw [List.map_take, List.map_drop]⟩
theorem r_slL {lo hi : Option Int} (h : SqL K H a xs) (q : ∀ p, H p = none → Q (.ref p) (upd H p (.lst (cutV xs lo hi)))) : rSlcA K (.ref a) lo hi H Q := .inl ⟨a, xs, rfl, h, q⟩
theorem r_catL (h1 : H a = some (.lst xs)) (h2 : H b = some (.lst ys)) (n : xs.length + ys.length ≤ sizeLine) (q : ∀ p, H p = none → Q (.ref p) (upd H p (.lst (xs ++ ys)))) : rAddA K (.ref a) (.ref b) H Q := .inr (.inl ⟨a, b, xs, ys, rfl, rfl, h1, h2, n, q⟩)
end
/-- either way an int -/
theorem r_split {σ : St} {H : Hp} {ta tb : TE} {Q : VK} {p : Prop} [Decidable p] (main : ∀ i : Int, Q (.int i) H) (h1 : p → (∀ i : Int, Q (.int i) H) → ta σ H Q) (h2 : ¬ p → (∀ i : Int, Q (.int i) H) → tb σ H Q) : if decide p = true then ta σ H Q else tb σ H Q :=
  r_D (fun c => h1 c main) (fun c => h2 c main)
/-! ### the dice of the laws -/
/-- the dice at d, rolled n times at most -/
def Dice (n : Nat) (H : Hp) (d : Addr) : Prop := ∃ x y z : Int, H d = some (.lst ([x, y, z].map V.int)) ∧ 0 ≤ x ∧ 0 ≤ y ∧ y < 2147480009 ∧ 0 ≤ z ∧ z ≤ n
theorem Dice.ex {n : Nat} {H H' : Hp} {d : Addr} (e : Ex H H') (h : Dice n H d) : Dice n H' d := by
  obtain ⟨x, y, z, h, r⟩ := h
  exact ⟨x, y, z, e _ _ h, r⟩
theorem Dice.ne {n : Nat} {H : Hp} {d p : Addr} (h : Dice n H d) (q : H p = none) : p ≠ d := fun e => by
  obtain ⟨x, y, z, h, r⟩ := h
  rw [← e, q] at h
  cases h
theorem Dice.exb {n : Nat} {H H' : Hp} {d p : Addr} (h : Dice n H d) (e : ExB d H H') (q : H' p = none) (h' : Dice (n + 1) H' d) : H p = none := by
  cases hp : H p with
  | none => rfl
  | some o =>
    have := e p o (h'.ne q) hp
    rw [q] at this; cases this
theorem Dice.mono {m n : Nat} {H : Hp} {d : Addr} (l : m ≤ n) (h : Dice m H d) : Dice n H d := by
  obtain ⟨x, y, z, h, h1, h2, h3, h4, h5⟩ := h
  exact ⟨x, y, z, h, h1, h2, h3, h4, by omega⟩
theorem IsTy.ex {K : PySem.W.Frag} {H H' : Hp} {v : V} {T : String} (e : Ex H H') (h : IsTy K H v T) : IsTy K H' v T := by
  obtain ⟨h, m⟩ := h
  refine ⟨?_, m⟩
  generalize ht : Value.type T = t at h
  cases h with
  | base b =>
    cases b with
    | non => exact .base .non
    | bl b => exact .base (.bl b)
    | int i => exact .base (.int i)
    | str x => exact .base (.str x)
    | flt x => exact .base (.flt x)
    | lst q => exact .base (.lst (e _ _ q))
    | frz q => exact .base (.frz (e _ _ q))
    | tup q => exact .base (.tup (e _ _ q))
    | dK q => exact .base (.dK (e _ _ q))
    | dT q => exact .base (.dT (e _ _ q))
    | ins => cases ht
  | byt b => exact .byt b
  | set q => exact .set (e _ _ q)
  | kList q c => exact .kList q c
  | kTuple q c => exact .kTuple q c
  | kDict q c => exact .kDict q c
  | fTuple q => exact .fTuple (e _ _ q)
  | fDict q => exact .fDict (e _ _ q)
/-- is a thing of type T one of c -/
def isT (T c : String) : Bool := T == c || (T == "bool" && c == "int")
theorem kit_all : ∀ T ∈ tyNames, ∀ c ∈ tyNames, kitB T c = some (isT T c) := by decide +kernel
theorem r_isiK {K : PySem.W.Frag} {H : Hp} {v : V} {T c : String} {Q : VK} (ty : IsTy K H v T) (hc : c ∈ tyNames) (q : Q (.bl (isT T c)) H) : rIsi K [v, .ty c] H Q := r_isi ty (kit_all T ty.2 c hc) q
end PB

/-! PK: the rules with the frame K named (a comprehension's own scope must not be in the reading). -/
namespace PB
open PySem PySem.Spec L2
open PyProof.Rows hiding St
section
variable {X : Cx} {K : PySem.W.Frag} {j : Nat}
theorem k_lt (eK : X.K = K) (hr : Room j X.A) : OpR X (compareOp .Lt) (rCmpA K (fun i j => decide (i < j)) fun d e => PySem.W.dataLt d e) := by subst eK; exact op_ltA hr
theorem k_gt (eK : X.K = K) (hr : Room j X.A) : OpR X (compareOp .Gt) (rCmpA K (fun i j => decide (j < i)) fun d e => PySem.W.dataLt e d) := by subst eK; exact op_gtA hr
theorem k_le (eK : X.K = K) (hr : Room j X.A) : OpR X (compareOp .LtE) (rCmpA K (fun i j => decide (i ≤ j)) fun d e => !PySem.W.dataLt e d) := by subst eK; exact op_leA hr
theorem k_ge (eK : X.K = K) (hr : Room j X.A) : OpR X (compareOp .GtE) (rCmpA K (fun i j => decide (j ≤ i)) fun d e => !PySem.W.dataLt d e) := by subst eK; exact op_geA hr
theorem k_eq (eK : X.K = K) (hr : Room j X.A) : OpR X (compareOp .Eq) (rEqA K) := by subst eK; exact op_eqA hr
theorem k_ne (eK : X.K = K) (hr : Room j X.A) : OpR X (compareOp .NotEq) (rNeA K) := by subst eK; exact op_neA hr
theorem k_in (eK : X.K = K) (hr : Room j X.A) : OpR X (compareOp .In) (rInA K) := by subst eK; exact op_inA hr
theorem k_nin (eK : X.K = K) (hr : Room j X.A) : OpR X (compareOp .NotIn) (rNinA K) := by subst eK; exact op_ninA hr
theorem k_add (eK : X.K = K) : OpR X (binaryOp .Add) (rAddA K) := by subst eK; exact op_addA
theorem k_mul (eK : X.K = K) : OpR X (binaryOp .Mult) (rMulA K) := by subst eK; exact op_mulA
theorem k_sum (eK : X.K = K) (hc : X.calm = true) : CallR X (.builtin "sum") (rSumA K) := by subst eK; exact cr_sumA hc
theorem k_sorted (eK : X.K = K) : CallR X (.builtin "sorted") (rSortedA K) := by subst eK; exact cr_sortedA
theorem k_len (eK : X.K = K) : CallR X (.builtin "len") (rLenA K) := by subst eK; exact cr_len
theorem k_isi (eK : X.K = K) : CallR X (.builtin "isinstance") (rIsi K) := by subst eK; exact call_isi
theorem k_all (eK : X.K = K) (hc : X.calm = true) : CallR X (.builtin "all") (rAll K) := by subst eK; exact cr_all hc
theorem k_any (eK : X.K = K) (hc : X.calm = true) : CallR X (.builtin "any") (rAny K) := by subst eK; exact cr_any hc
theorem k_tuple (eK : X.K = K) : CallR X (.type "tuple") (rTupA K) := by subst eK; exact cr_tuple
theorem k_list (eK : X.K = K) : CallR X (.type "list") (rListA K) := by subst eK; exact cr_list
theorem k_ix (eK : X.K = K) : IxR X (rIxA K) := by subst eK; exact ix_A
theorem k_sl (eK : X.K = K) : SlR X (rSlcA K) := by subst eK; exact sl_A
theorem k_get (eK : X.K = K) : PGet X (rIxL K) := by subst eK; exact get_list
def tTru (K : PySem.W.Frag) (ta : TE) : TT := fun σ H Q => ta σ H fun x H' => ∃ k, TruV K x H' k ∧ Q k H'
theorem k_truth {a : Expr} {ta : TE} (eK : X.K = K) (ha : PE X a ta) (he : ∀ whole, isTrue a X.env whole = (do let v ← whole; standAt a.pos; holding [v] (truthy v))) : PT X a (tTru K ta) := by
  subst eK
  exact pt_truth ha he
theorem k_seq {tg l : Expr} {tl : TE} (eK : X.K = K) (hl : PE X l tl) : PI X tg l (iSeq K tl) := by subst eK; exact pi_seq hl
theorem k_zip {e e2 : Expr} {ta : TA} {p pos tpos : Pos} {elts : List Expr} {kk : Nat} (eK : X.K = K) (hg : Gl X "zip") (hm : X.mg "zip" = none) (ha : PA X [e, e2] ta)
    (hs : starEach [e, e2] X.env = (false, eval e X.env) :: starEach [e2] X.env := by rfl) (hpl : (backTo pos (starEach [e2] X.env)).any (·.1) = false := by rfl) :
    PI X (.Tuple elts kk tpos) (.Call (.Name "zip" p) [e, e2] [] pos) (iZipM K ta) := by
  subst eK
  exact pi_zipM hg hm ha hs hpl
theorem k_enum {e : Expr} {ta : TA} {p pos tpos : Pos} {elts : List Expr} {kk : Nat} (eK : X.K = K) (cl : X.calm = true) (hm : X.mg "enumerate" = none) (ha : PA X [e] ta) (hg : Gl X "enumerate" := by rfl) (hs : starEach [e] X.env = [(false, eval e X.env)] := by rfl) :
    PI X (.Tuple elts kk tpos) (.Call (.Name "enumerate" p) [e] [] pos) (iEnumM K ta) := by
  subst eK
  exact pi_enumM cl hm ha hg hs
theorem k_two {i j kk : Nat} {x y : Str} {px py pos : Pos} (eK : X.K = K) (hN : X.N.Nodup) (hi : X.N[i]? = some x) (hj : X.N[j]? = some y) (lx : Loc X.env.scope x) (ly : Loc X.env.scope y)
    (fx : X.fn x = true ∨ X.env.scope.names.lookup x = some .local) (fy : X.fn y = true ∨ X.env.scope.names.lookup y = some .local) (hc : X.calm = true) : PG X (.Tuple [.Name x px, .Name y py] kk pos) (gTup K 2 (gCons (gName i) (gCons (gName j) gNil))) := by
  subst eK
  exact pg_two hc hN hi hj lx ly fx fy
theorem k_three {i j l kk : Nat} {x y z : Str} {px py pz pos : Pos} (eK : X.K = K) (hN : X.N.Nodup) (hi : X.N[i]? = some x) (hj : X.N[j]? = some y) (hl : X.N[l]? = some z) (lx : Loc X.env.scope x) (ly : Loc X.env.scope y) (lz : Loc X.env.scope z)
    (fx : X.fn x = true ∨ X.env.scope.names.lookup x = some .local) (fy : X.fn y = true ∨ X.env.scope.names.lookup y = some .local) (fz : X.fn z = true ∨ X.env.scope.names.lookup z = some .local) (hc : X.calm = true) : PG X (.Tuple [.Name x px, .Name y py, .Name z pz] kk pos) (gTup K 3 (gCons (gName i) (gCons (gName j) (gCons (gName l) gNil)))) := by
  subst eK
  exact pg_three hc hN hi hj hl lx ly lz fx fy fz
theorem k_tup {es : List Expr} {k n : Nat} {t : TGs} {pos : Pos} (eK : X.K = K) (hc : X.calm = true) (h : PGs X es t) (hn : (assignEach es X.env).length = n := by rfl) (hst : (assignEach es X.env).findIdx? (·.1) = none := by rfl) : PG X (.Tuple es k pos) (gTup K n t) := by
  subst eK
  exact pg_tup hc h hn hst
theorem k_append {o e : Expr} {to te : TE} {apos cpos : Pos} (eK : X.K = K) (ho : PE X o to) (ha : PE X e te) (hbase : attributeBase o "append" X.env (eval o X.env) = eval o X.env := by rfl)
    (hfew : ((backTo cpos (starEach [e] X.env)).all (fun x => !x.1) && (backToKw cpos (keywordEach [] X.env)).all (fun x => x.1.isSome) && decide ([e].length + ([] : List Keyword).length + (if ([] : List Keyword).isEmpty then 0 else 1) < 30)) = true := by rfl)
    (hline : (apos.endLine == cpos.line) = true := by rfl) (hs : starEach [e] X.env = (false, eval e X.env) :: starEach [] X.env := by rfl) :
    PE X (.Call (.Attribute o "append" apos) [e] [] cpos) (tBM K "list" rAppend to (tCons te tNil)) := by
  subst eK
  exact pe_bm PySem.F.plainAttrs_list PySem.F.slot_list_append PySem.F.type_list_append mt_append ho (pa_cons ha pa_nil hs) hbase hfew hline hs rfl
end
section
variable {K : PySem.W.Frag} {σ : St} {H : Hp} {Q : VK} {ta : TE} {a : Addr} {xs : List V} {v : V}
theorem r_tru {Q : Bool → Hp → Prop} (h : ta σ H fun x H' => ∃ k, TruV K x H' k ∧ Q k H') : tTru K ta σ H Q := h
/-- xs.append(v) -/
theorem r_bm {T : String} {r : V → List V → Hp → VK → Prop} {t : TA} (h : ta σ H fun x H1 => tyV K T x H1 ∧ t σ H1 fun xs H2 => r x xs H2 Q) : tBM K T r ta t σ H Q := h
theorem r_app (h : H a = some (.lst xs)) (n : xs.length < sizeLine) (q : Q .non (upd H a (.lst (xs ++ [v])))) : rAppend (.ref a) [v] H Q := ⟨a, xs, v, rfl, rfl, h, n, q⟩
end
end PB

/-! PD: rows of ints as data: ==, !=, in, <, sorted. -/
namespace PB
open PySem PySem.Spec L2
open PyProof.Rows hiding St
section
variable {K : PySem.W.Frag} {H H' : Hp} {a b : Addr} {ns ms : List Int} {Q : VK}
/-- ints as data -/
def dI (ns : List Int) : List PyData := ns.map .int
theorem dp_I : ∀ ns : List Int, DpAll K H (ns.map V.int) (dI ns)
  | [] => .nil
  | n :: ns => .cons (.int n) (dp_I ns)
theorem dp_t (h : SqT K H a (ns.map V.int)) : Dp K H (.ref a) (.tuple (dI ns)) := .tup h (dp_I ns)
theorem dp_l (h : SqL K H a (ns.map V.int)) : Dp K H (.ref a) (.list (dI ns)) := .lst h (dp_I ns)
theorem lay_I : ∀ ns : List Int, PyData.canLayAll0 (dI ns) = true
  | [] => by unfold dI; rw [List.map_nil]; simp only [PyData.canLayAll0]
  | n :: ns => by
    have := lay_I ns
    unfold dI at this ⊢
    rw [List.map_cons]
    simp only [PyData.canLayAll0, PyData.canLay0, this, Bool.and_self]
theorem dep_I : ∀ ns : List Int, PyData.depthAll (dI ns) = 0
  | [] => by unfold dI; rw [List.map_nil]; simp only [PyData.depthAll]
  | n :: ns => by
    have := dep_I ns
    unfold dI at this ⊢
    rw [List.map_cons]
    simp only [PyData.depthAll, PyData.depth, this, Nat.max_self]
theorem sh_of {d : PyData} (h : d.canLay0 = true) (e : d.depth ≤ 64) : SeqAt.shaped d = true := by
  unfold SeqAt.shaped
  rw [h, decide_eq_true e]; rfl
theorem dep_t : PyData.depth (.tuple (dI ns)) = 1 := by simp only [PyData.depth, dep_I]
theorem dep_l : PyData.depth (.list (dI ns)) = 1 := by simp only [PyData.depth, dep_I]
theorem sh_t : SeqAt.shaped (.tuple (dI ns)) = true := sh_of (by simp only [PyData.canLay0, lay_I]) (by rw [dep_t]; decide)
theorem sh_l : SeqAt.shaped (.list (dI ns)) = true := sh_of (by simp only [PyData.canLay0, lay_I]) (by rw [dep_l]; decide)
theorem ali_I : ∀ ns ms : List Int, PySem.W.alikeAll (dI ns) (dI ms) = true
  | [], [] => by unfold dI; simp only [List.map_nil, PySem.W.alikeAll]
  | [], _ :: _ => by unfold dI; simp only [List.map_nil, List.map_cons, PySem.W.alikeAll]
  | _ :: _, [] => by unfold dI; simp only [List.map_nil, List.map_cons, PySem.W.alikeAll]
  | n :: ns, m :: ms => by
    have := ali_I ns ms
    unfold dI at this ⊢
    simp only [List.map_cons, PySem.W.alikeAll, PySem.W.alike, this, Bool.and_self]
theorem eqv_I : ∀ ns ms : List Int, PyData.eqvAll (dI ns) (dI ms) = decide (ns = ms)
  | [], [] => by unfold dI; simp only [List.map_nil, PyData.eqvAll, decide_true]
  | [], _ :: _ => by unfold dI; simp only [List.map_nil, List.map_cons, PyData.eqvAll]; rfl
  | _ :: _, [] => by unfold dI; simp only [List.map_nil, List.map_cons, PyData.eqvAll]; rfl
  | n :: ns, m :: ms => by
    have := eqv_I ns ms
    unfold dI at this ⊢
    simp only [List.map_cons, PyData.eqvAll, PyData.eqv, this]
    by_cases h1 : n = m <;> by_cases h2 : ns = ms <;> simp [h1, h2]
theorem lt_I (ns ms : List Int) : PySem.W.dataLt (.list (dI ns)) (.list (dI ms)) = decide (ns < ms) := by
  rw [PySem.W.dataLt_list]
  exact PySem.W.dataLt_ints ns ms
theorem lt_T (ns ms : List Int) : PySem.W.dataLt (.tuple (dI ns)) (.tuple (dI ms)) = decide (ns < ms) := by
  rw [PySem.W.dataLt_tuple]
  exact PySem.W.dataLt_ints ns ms
/-- two lists of ints compared -/
theorem r_gtLL (h1 : SqL K H a (ns.map V.int)) (h2 : SqL K H b (ms.map V.int)) (q : Q (.bl (decide (ms < ns))) H) : rCmpA K (fun i j => decide (j < i)) (fun d e => PySem.W.dataLt e d) (.ref a) (.ref b) H Q :=
  .inr ⟨_, _, dp_l h1, dp_l h2, by simp only [PySem.W.alike]; exact ali_I ns ms, (fun e => nomatch e), by rw [dep_l, dep_l]; decide, by rw [← lt_I] at q; exact q⟩
theorem r_ltTT (h1 : SqT K H a (ns.map V.int)) (h2 : SqT K H b (ms.map V.int)) (q : Q (.bl (decide (ns < ms))) H) : rCmpA K (fun i j => decide (i < j)) (fun d e => PySem.W.dataLt d e) (.ref a) (.ref b) H Q :=
  .inr ⟨_, _, dp_t h1, dp_t h2, by simp only [PySem.W.alike]; exact ali_I ns ms, (fun e => nomatch e), by rw [dep_t, dep_t]; decide, by rw [← lt_T] at q; exact q⟩
theorem r_eqTT (h1 : SqT K H a (ns.map V.int)) (h2 : SqT K H b (ms.map V.int)) (q : Q (.bl (decide (ns = ms))) H) : rEqA K (.ref a) (.ref b) H Q :=
  .inr ⟨_, _, dp_t h1, dp_t h2, sh_t, sh_t, by simp only [PyData.eqv, eqv_I]; exact q⟩
theorem r_neTT (h1 : SqT K H a (ns.map V.int)) (h2 : SqT K H b (ms.map V.int)) (q : Q (.bl (!decide (ns = ms))) H) : rNeA K (.ref a) (.ref b) H Q :=
  .inr ⟨_, _, dp_t h1, dp_t h2, sh_t, sh_t, by simp only [PyData.eqv, eqv_I]; exact q⟩
theorem r_eqLL (h1 : SqL K H a (ns.map V.int)) (h2 : SqL K H b (ms.map V.int)) (q : Q (.bl (decide (ns = ms))) H) : rEqA K (.ref a) (.ref b) H Q :=
  .inr ⟨_, _, dp_l h1, dp_l h2, sh_l, sh_l, by simp only [PyData.eqv, eqv_I]; exact q⟩
theorem r_neLL (h1 : SqL K H a (ns.map V.int)) (h2 : SqL K H b (ms.map V.int)) (q : Q (.bl (!decide (ns = ms))) H) : rNeA K (.ref a) (.ref b) H Q :=
  .inr ⟨_, _, dp_l h1, dp_l h2, sh_l, sh_l, by simp only [PyData.eqv, eqv_I]; exact q⟩
theorem r_sortedL {H : Hp} (h : SqL K H a (ns.map V.int)) (q : ∀ (ns' : List Int) (p : Addr), ns'.Perm ns → ns'.Pairwise (· ≤ ·) → H p = none → Q (.ref p) (upd H p (.lst (ns'.map V.int)))) : rSortedA K [V.ref a] H Q := .inl ⟨a, ns, rfl, h, q⟩
theorem r_sortedT {H : Hp} (h : SqT K H a (ns.map V.int)) (q : ∀ (ns' : List Int) (p : Addr), ns'.Perm ns → ns'.Pairwise (· ≤ ·) → H p = none → Q (.ref p) (upd H p (.lst (ns'.map V.int)))) : rSortedA K [V.ref a] H Q := .inr ⟨a, ns, rfl, h, q⟩
/-! ### rows: values that are tuples of ints -/
def Row (K : PySem.W.Frag) (H : Hp) (v : V) (r : List Int) : Prop := ∃ p, v = .ref p ∧ SqT K H p (r.map V.int)
/-- these values are these rows -/
inductive Rws (K : PySem.W.Frag) (H : Hp) : List V → List (List Int) → Prop
  | nil : Rws K H [] []
  | cons {v : V} {vs : List V} {r : List Int} {rs : List (List Int)} : Row K H v r → Rws K H vs rs → Rws K H (v :: vs) (r :: rs)
theorem Row.ex {v : V} {r : List Int} (e : Ex H H') (h : Row K H v r) : Row K H' v r := by
  obtain ⟨p, rfl, h⟩ := h
  exact ⟨p, rfl, sqT_ex e h⟩
theorem Rws.ex {vs : List V} {rs : List (List Int)} (e : Ex H H') (h : Rws K H vs rs) : Rws K H' vs rs := by
  induction h with
  | nil => exact .nil
  | cons h _ ih => exact .cons (h.ex e) ih
/-- the rows stay where another object changes -/
theorem Row.put {v : V} {r : List Int} {d : Addr} {xs : List V} {o : HO} (hd : H d = some (.lst xs)) (h : Row K H v r) : Row K (upd H d o) v r := by
  obtain ⟨p, rfl, h⟩ := h
  refine ⟨p, rfl, ?_⟩
  rcases h with (h | ⟨o', h⟩) | h
  · exact .inl (.inl ((upd_ne (fun e => by rw [e, hd] at h; cases h)).trans h))
  · exact .inl (.inr ⟨o', (upd_ne (fun e => by rw [e, hd] at h; cases h)).trans h⟩)
  · exact .inr h
theorem Rws.put {vs : List V} {rs : List (List Int)} {d : Addr} {xs : List V} {o : HO} (hd : H d = some (.lst xs)) (h : Rws K H vs rs) : Rws K (upd H d o) vs rs := by
  induction h with
  | nil => exact .nil
  | cons h _ ih => exact .cons (h.put hd) ih
theorem Rws.snoc {vs : List V} {rs : List (List Int)} {v : V} {r : List Int} (h : Rws K H vs rs) (k : Row K H v r) : Rws K H (vs ++ [v]) (rs ++ [r]) := by
  induction h with
  | nil => exact .cons k .nil
  | cons h _ ih => exact .cons h ih
theorem Rws.length {vs : List V} {rs : List (List Int)} (h : Rws K H vs rs) : vs.length = rs.length := by
  induction h with
  | nil => rfl
  | cons _ _ ih => rw [List.length_cons, List.length_cons, ih]
theorem Rws.get {vs : List V} {rs : List (List Int)} (h : Rws K H vs rs) : ∀ {i : Nat} {v : V}, vs[i]? = some v → ∃ r, rs[i]? = some r ∧ Row K H v r := by
  induction h with
  | nil => intro i v e; cases e
  | cons h _ ih =>
    intro i v e
    cases i with
    | zero => cases e; exact ⟨_, rfl, h⟩
    | succ i => exact ih (by simpa using e)
theorem Rws.dp {vs : List V} {rs : List (List Int)} (h : Rws K H vs rs) : DpAll K H vs (rs.map fun r => .tuple (dI r)) := by
  induction h with
  | nil => exact .nil
  | cons h _ ih =>
    obtain ⟨p, rfl, h⟩ := h
    exact .cons (dp_t h) ih
theorem lay_R : ∀ rs : List (List Int), PyData.canLayAll0 (rs.map fun r => .tuple (dI r)) = true
  | [] => by rw [List.map_nil]; simp only [PyData.canLayAll0]
  | r :: rs => by rw [List.map_cons]; simp only [PyData.canLayAll0, PyData.canLay0, lay_R rs, lay_I, Bool.and_self]
theorem dep_R : ∀ rs : List (List Int), PyData.depthAll (rs.map fun r => .tuple (dI r)) ≤ 1
  | [] => by rw [List.map_nil]; simp only [PyData.depthAll]; decide
  | r :: rs => by
    have := dep_R rs
    rw [List.map_cons]
    simp only [PyData.depthAll, PyData.depth, dep_I]
    omega
theorem sh_R {rs : List (List Int)} : SeqAt.shaped (.list (rs.map fun r => .tuple (dI r))) = true :=
  sh_of (by simp only [PyData.canLay0, lay_R]) (by simp only [PyData.depth]; have := dep_R rs; omega)
theorem any_R (r : List Int) : ∀ rs : List (List Int), ((rs.map fun r => PyData.tuple (dI r)).any fun z => PyData.eqv z (.tuple (dI r))) = decide (r ∈ rs)
  | [] => rfl
  | s :: rs => by
    rw [List.map_cons, List.any_cons, any_R r rs]
    simp only [PyData.eqv, eqv_I]
    by_cases h1 : s = r
    · subst h1; simp
    · by_cases h2 : r ∈ rs
      · simp [h2]
      · have h3 : ¬ r = s := fun e => h1 e.symm
        simp [h1, h2, h3]
/-- a row not in a list of rows -/
theorem r_ninR {vs : List V} {rs : List (List Int)} (h1 : SqT K H a (ns.map V.int)) (h2 : SqL K H b vs) (h3 : Rws K H vs rs) (q : Q (.bl (!decide (ns ∈ rs))) H) : rNinA K (.ref a) (.ref b) H Q :=
  .inr ⟨_, _, dp_t h1, .lst h2 h3.dp, sh_t, sh_R, by rw [any_R]; exact q⟩
theorem r_inR {vs : List V} {rs : List (List Int)} (h1 : SqT K H a (ns.map V.int)) (h2 : SqL K H b vs) (h3 : Rws K H vs rs) (q : Q (.bl (decide (ns ∈ rs))) H) : rInA K (.ref a) (.ref b) H Q :=
  .inr ⟨_, _, dp_t h1, .lst h2 h3.dp, sh_t, sh_R, by rw [any_R]; exact q⟩
/-- two lists without an item -/
theorem r_ne00 (h1 : SqL K H a []) (h2 : SqL K H b []) (q : Q (.bl false) H) : rNeA K (.ref a) (.ref b) H Q := r_neLL (ns := []) (ms := []) h1 h2 q
theorem r_eq00 (h1 : SqL K H a []) (h2 : SqL K H b []) (q : Q (.bl true) H) : rEqA K (.ref a) (.ref b) H Q := r_eqLL (ns := []) (ms := []) h1 h2 q
/-- a tuple and a tuple of one or more -/
theorem r_catT {xs ys : List V} (h1 : SqT K H a xs) (h2 : SqT K H b ys) (n : xs.length + ys.length ≤ sizeLine) (q : ∀ p H', Ex H H' → SqT K H' p (xs ++ ys) → Q (.ref p) H') : rAddA K (.ref a) (.ref b) H Q :=
  .inr (.inr (.inl ⟨a, b, xs, ys, rfl, rfl, h1, h2, n, fun e => by subst e; exact q b H (Ex.refl H) h2, fun _ e => by subst e; rw [List.append_nil] at q; exact q a H (Ex.refl H) h1, fun _ _ p hp => q p _ (Ex.new hp) sqT_new⟩))
theorem r_slT {xs : List V} {lo hi : Option Int} (h : SqT K H a xs) (q : ∀ p H', Ex H H' → SqT K H' p (cutV xs lo hi) → Q (.ref p) H') : rSlcA K (.ref a) lo hi H Q := by
  refine .inr (.inl ⟨a, xs, rfl, h, fun ⟨e1, e2⟩ => q a H (Ex.refl H) ?_, fun _ p hp => q p _ (Ex.new hp) sqT_new⟩)
  have e : cutV xs lo hi = xs := by
    unfold cutV
    rw [e1, e2]
    simp
  rw [e]; exact h
end
/-- rows that pass a test -/
theorem c_rows {σ : St} {H : Hp} {Q : VK} {K : PySem.W.Frag} {tt : TT} {te : TE} {vs : List Nat} {a : Addr} {ws : List V} {rs : List (List Int)} {j : Nat} (h : SqL K H a ws) (hr : Rws K H ws rs) (f : List Int → Bool) (hn : ws.length < 16000000) (hw : ∀ x, wipe ((wipe σ vs).set j (some x)) vs = wipe σ vs)
    (turn : ∀ v r H1 (q : VK) (N : Hp → Prop), r ∈ rs → Ex H H1 → Row K H1 v r → (f r = true → ∀ H4, Ex H1 H4 → q v H4) → (f r = false → ∀ H4, Ex H1 H4 → N H4) → tt ((wipe σ vs).set j (some v)) H1 fun b H4 => if b = true then te ((wipe σ vs).set j (some v)) H4 q else N H4)
    (done : ∀ L H' us, H L = none → Ex H H' → H' L = some (.lst us) → Rws K H' us (rs.filter f) → Q (.ref L) H') : sQ K (CQ (gName j) tt te vs σ Q) (.ref a) H := by
  refine s_L h (c_it walk_list hn (fun H' e => sqL_ex e h) (fun i acc H' => Rws K H' acc ((rs.take i).filter f)) (fun _ _ => by rw [List.take_zero, List.filter_nil]; exact .nil) (fun L i acc H1 u u' hL _ p => p.put hL) ?_ ?_)
  · rintro i x acc H1 H2 q N hi e1 p ⟨rfl, hx⟩ hq hN
    obtain ⟨r, er, rw'⟩ := hr.get hx
    have tk : rs.take (i + 1) = rs.take i ++ [r] := by rw [List.take_add_one, er]; rfl
    refine ⟨hw x, turn x r H2 q N (List.mem_of_getElem? er) e1 (rw'.ex e1) (fun fy H4 e4 => hq x H4 e4 ?_) fun fn H4 e4 => hN H4 e4 ?_⟩
    · rw [tk, List.filter_append, List.filter_cons_of_pos fy, List.filter_nil]
      exact (p.ex e4).snoc ((rw'.ex e1).ex e4)
    · rw [tk, List.filter_append, List.filter_cons_of_neg (by rw [fn]; decide), List.filter_nil, List.append_nil]
      exact p.ex e4
  · intro L acc H' h1 h2 h3 _ h5
    rw [List.take_of_length_le (Nat.le_of_eq hr.length.symm)] at h5
    exact done L H' acc h1 h2 h3 h5
/-- a row of rolls -/
theorem c_dice {σ : St} {H : Hp} {Q : VK} {tt : TT} {te : TE} {vs : List Nat} {j n m : Nat} {lo t : Int} {d : Addr} (hd : Dice n H d) (hm : m < 16000000) (hw : ∀ x, wipe ((wipe σ vs).set j (some x)) vs = wipe σ vs)
    (turn : ∀ (i : Nat) H1 (q : VK) (N : Hp → Prop), i < m → ExB d H H1 → Dice (n + i) H1 d → (∀ r H4, 0 ≤ r → r < t → ExB d H1 H4 → Dice (n + i + 1) H4 d → q (.int r) H4) →
      tt ((wipe σ vs).set j (some (.int (lo + i)))) H1 fun b H4 => if b = true then te ((wipe σ vs).set j (some (.int (lo + i)))) H4 q else N H4)
    (done : ∀ L H' (ns : List Int), H L = none → L ≠ d → ExB d H H' → H' L = some (.lst (ns.map V.int)) → ns.length = m → (∀ x ∈ ns, 0 ≤ x ∧ x < t) → Dice (n + m) H' d → Q (.ref L) H') : CQ (gName j) tt te vs σ Q (Itr lo m) H := by
  intro L hL
  have ne : L ≠ d := hd.ne hL
  refine lc_it walk_range (fun i H' => ∃ ns : List Int, ExB d H H' ∧ H' L = some (.lst (ns.map V.int)) ∧ ns.length = i ∧ (∀ x ∈ ns, 0 ≤ x ∧ x < t) ∧ Dice (n + i) H' d) ⟨[], ExB.of (Ex.new hL), upd_same, rfl, (fun x hx => nomatch hx), hd.ex (Ex.new hL)⟩ (fun _ _ _ _ => trivial) ?_ ?_
  · rintro i x H1 H2 hi ⟨ns, e1, e2, e3, e4, e5⟩ ⟨rfl, rfl⟩
    refine ⟨hw _, turn i H2 _ _ hi e1 e5 fun r H4 r0 r1 e6 e7 => ?_⟩
    have hL4 : H4 L = some (.lst (ns.map V.int)) := e6 _ _ ne e2
    refine ⟨ns.map V.int, hL4, by rw [List.length_map]; exact Nat.lt_trans (by omega : ns.length < 16000000) (by decide), ns ++ [r], ?_, by rw [upd_same, List.map_append]; rfl, by rw [List.length_append, e3]; rfl, ?_, ?_⟩
    · intro b o hb ho
      have hne : b ≠ L := fun z => by rw [z, hL] at ho; cases ho
      exact (upd_ne hne).trans (e6 _ _ hb (e1 b o hb ho))
    · intro y hy
      rw [List.mem_append, List.mem_singleton] at hy
      rcases hy with hy | rfl
      · exact e4 y hy
      · exact ⟨r0, r1⟩
    · obtain ⟨x, y, z, h, r⟩ := e7
      exact ⟨x, y, z, (upd_ne (Ne.symm ne)).trans h, r⟩
  · rintro H' ⟨ns, e1, e2, e3, e4, e5⟩
    exact done L H' ns hL ne e1 e2 e3 e4 e5
theorem cut_lo {xs : List V} {i : Nat} : cutV xs none (some (i : Int)) = xs.take i := by
  unfold cutV
  rw [HT.sIx_none, HT.sIx_nat, Nat.sub_zero, List.drop_zero, List.take_eq_take_iff]
  omega
theorem cut_hi {xs : List V} {i : Nat} : cutV xs (some (i : Int)) none = xs.drop i := by
  unfold cutV
  rw [HT.sIx_none, HT.sIx_nat]
  by_cases h : i ≤ xs.length
  · rw [Nat.min_eq_left h, List.take_of_length_le (by rw [List.length_drop]; exact Nat.le_refl _)]
  · rw [Nat.min_eq_right (by omega), List.drop_eq_nil_of_le (Nat.le_refl _), List.drop_eq_nil_of_le (by omega), List.take_nil]
theorem Dice.fresh {n : Nat} {H : Hp} {d p : Addr} {o : HO} (h : Dice n H d) (hp : H p = none) : Dice n (upd H p o) d := h.ex (Ex.new hp)
end PB

/-! PG: defs that need to know that no repr is under way: calls, the law's own call, repr of data. -/
namespace PB
open PySem PySem.Spec L2
open PyProof.Rows hiding St
/-- as FnOk, where no repr is under way -/
structure FnG (P : Program) (w : World) (K : PySem.W.Frag) (mg : Str → Option Value) (base : Heap) (k : Nat) (f : Addr) (fd : FuncData) (ps : List Str) (sp : Sp) : Prop where
  len : ∀ vs H Q E, sp vs H Q E → vs.length = ps.length
  run : ∀ (A : Around) (outer : List Env) (s : Shared) (H : Hp) (args : Args) (us : List Value) (vs : List V) (Q : VK) (E : XK), A.guards = some [] → Room k A → Env0 P w K mg base A outer s H → BindsTo s fd args (ps.zip us) → Vals vs us → sp vs H Q E →
    codeAny (model P w) A (.call (.ref f) args) (CR (L2.CX P w) outer P w H s Q E) s
def CalG (P : Program) (w : World) (K : PySem.W.Frag) (mg : Str → Option Value) (base : Heap) (k : Nat) (x : Str) (ps : List Str) (sp : Sp) : Prop :=
  ∃ f fd, mg x = some (.ref f) ∧ PySem.W.keepIn K (.ref f) = true ∧ FnG P w K mg base k f fd ps sp ∧ Binds K fd ps []
theorem pe_fG {X : Cx} {k j : Nat} {x : Str} {ps : List Str} {sp : Sp} {E : XK} {p pos : Pos} {e : Expr} {es : List Expr} {t : TA} (c : CalG X.prog X.w X.K X.mg X.base k x ps sp) (gd : X.A.guards = some []) (hr : Room j X.A) (hk : k ≤ j) (hx : Passes (L2.CX X.prog X.w) X E) (ha : PA X (e :: es) t)
    (hg : Gl X x := by rfl) (hdb : (x == ("__debug__" : Str)) = false := by decide) (he : starEach (e :: es) X.env = (false, eval e X.env) :: starEach es X.env := by rfl) (hpl : (backTo pos (starEach es X.env)).any (·.1) = false := by rfl) :
    PE X (.Call (.Name x p) (e :: es) [] pos) (tCall sp [] E t) := by
  obtain ⟨f, fd, h1, h2, F, b⟩ := c
  refine ⟨fun pins s σ H Q I h => wpAny_Call_Name_kw (ld_glob I hg h1 ?_ hdb)⟩
  refine PySem.W.callWith_K (h₀ := X.base) I.ok.mod.kin h2 (thn (ha.run pos pins s σ H _ I h) fun us s1 ⟨vs, H1, I1, r, q⟩ => ⟨I1.kIn, ?_⟩) he hpl
  have q2 : sp (vs ++ []) H1 Q E := q
  rw [List.append_nil] at q2
  have hl : (us ++ []).length = ps.length := by
    rw [List.append_nil, ← r.length]
    exact F.len _ _ _ _ q2
  have hb := b s1 us I1.kIn hl
  rw [List.append_nil] at hb
  refine wpAny_call (codeAny_mono (F.run X.A X.stack s1 H1 ⟨us, []⟩ us vs Q E gd (hr.mono hk) I1.env0 hb r q2) fun z s' hq => ?_)
  match z, hq with
  | .error er, hq => exact hx pins σ H1 s1 er s' I1 hq
  | .ok (.ret u), hq => exact I1.after hq
  | .ok .next, hq => exact hq.elim
  | .ok .brk, hq => exact hq.elim
  | .ok .cont, hq => exact hq.elim
/-- such a def's body -/
theorem fnG_of {P : Program} {w : World} {K : PySem.W.Frag} {mg : Str → Option Value} {base : Heap} {x : Str} {a : Arguments} {b : List Stmt} {sc : Scope} {f : Addr} {fd : FuncData} {N ps : List Str} {k : Nat} {sp : Sp} (F : FunD K x x a b sc [] [] f fd) (S : FnScope N ps sc)
    (len : ∀ vs H Q E, sp vs H Q E → vs.length = ps.length)
    (hbody : ∀ (cdv : Value) (A : Around) (outer : List Env) (s : Shared) (H : Hp) (vs : List V) (Q : VK) (E : XK), (A.deeper (envOfC x sc s.heap.objs.size f cdv)).guards = some [] → Room k (A.deeper (envOfC x sc s.heap.objs.size f cdv)) → sp vs H Q E →
      ∃ t, PSs (cxOf (L2.CX P w) P w K mg base N x sc f cdv A outer s H E) b t ∧ t { nx := fun _ H' => Q .non H', rt := Q } (start N vs) H) : FnG P w K mg base (k + 1) f fd ps sp := by
  obtain ⟨oc, od, dV, kV, doc, pm, an, cdv, ct, osl, rfl, lk, hcd, _, _⟩ := F.ex
  exact ⟨len, fun A outer s H args us vs Q E hg hr e0 hb r h => LamX.run_ofS lk hcd S hr e0 hb r (len _ _ _ _ h) fun hr' => hbody cdv A outer s H vs Q E hg hr' h⟩
section
variable {P : Program} {w : World} {fa : List He.Fa} {fn : List He.DefD} {K : PySem.W.Frag} {mg : Str → Option Value} {base : Heap}
theorem Ct.calG (C : Ct fa fn K mg base) (i j : Nat) {x : Str} {a : Arguments} {b : List Stmt} {sc : Scope} (hd : fn[i]? = some ⟨(x, none), x, x, a, b, sc, [], []⟩) (hj : fa[j]? = some (.glo x)) {N ps : List Str} {k : Nat} {sp : Sp} (S : FnScope N ps sc)
    (hb : ∀ (kV doc pm : Value) (an : Option Addr) (cdv ct : Value) (us : List Value), us.length = ps.length → bindArgs (PySem.W.fnOf x x a b sc .none kV doc pm an cdv ct) ⟨us, []⟩ = pure (ps.zip us))
    (len : ∀ vs H Q E, sp vs H Q E → vs.length = ps.length)
    (hbody : ∀ (f : Addr) (cdv : Value) (A : Around) (outer : List Env) (s : Shared) (H : Hp) (vs : List V) (Q : VK) (E : XK), (A.deeper (envOfC x sc s.heap.objs.size f cdv)).guards = some [] → Room k (A.deeper (envOfC x sc s.heap.objs.size f cdv)) → sp vs H Q E →
      ∃ t, PSs (cxOf (L2.CX P w) P w K mg base N x sc f cdv A outer s H E) b t ∧ t { nx := fun _ H' => Q .non H', rt := Q } (start N vs) H) : CalG P w K mg base (k + 1) x ps sp := by
  obtain ⟨fd, F⟩ := C.says.def_ i hd
  exact ⟨_, fd, He.glo_ok C.kin C.glob (C.says.fact j hj), F.kp, fnG_of F S len fun cdv A outer s H vs Q E hg hr h => hbody _ cdv A outer s H vs Q E hg hr h, FunD.bindsN F hb⟩
end
/-! ### repr -/
/-- the text of data -/
def rRepr (K : PySem.W.Frag) : List V → Hp → VK → Prop := fun vs H Q => ∃ a d, vs = [.ref a] ∧ Dp K H (.ref a) d ∧ d.showable = true ∧ d.hasDict = false ∧ d.shown.length ≤ sizeLine ∧ d.depth ≤ 60 ∧ Q (.str d.shown) H
theorem k_repr {X : Cx} {K : PySem.W.Frag} {j : Nat} (eK : X.K = K) (hr : Room j X.A) (gd : X.A.guards = some []) : CallR X (.builtin "repr") (rRepr K) := by
  subst eK
  intro pins s σ H vs us Q I r h
  obtain ⟨a, d, rfl, hd, sh, nd, hz, dp, q⟩ := h
  rw [Vals.ref1 r]
  obtain ⟨as, rd⟩ := Dp.reads I d (.ref a) (.ref a) hd rfl
  have hu : X.A.units + (d.depth + 1) < cLine := by
    have := hr.un
    omega
  refine repr_of_reads' rd sh (fun e => by rw [nd] at e; cases e) gd hu (fun _ _ z => z) (fun h' u tk k => ⟨.str d.shown, H, I.kept k, ⟨u, rfl⟩, q⟩) hz
/-! ### the law called: nothing stands but the script and the tables -/
section
variable {P : Program} {w : World} {K : PySem.W.Frag} {mg mb : Str → Option Value} {cs : List (Addr × Addr)} {st : Shared}
/-- the abstract heap with nothing but the tables -/
def tabH (cs : List (Addr × Addr)) : Hp := fun b => if b ∈ cs.map (·.2) then some (.tbl #[]) else none
theorem tabH_in {p : Addr × Addr} (h : p ∈ cs) : tabH cs p.2 = some (.tbl #[]) := if_pos (List.mem_map.mpr ⟨p, h, rfl⟩)
theorem tabH_out {b : Addr} (h : b ∉ cs.map (·.2)) : tabH cs b = none := if_neg h
/-- from a heap in which lists and empty tables alone may be tracked, none of them of K -/
theorem law_from {H : Hp} {fa a : Addr} {k : Nat} {fd : FuncData} {x : Str} {sp : Sp} {ns : List Int} (kin : K.In st.heap) (gn : st.heap.Ns mainGlobals mg) (bn : st.heap.Ns builtinsNs mb) (bb : ∀ y : Str, y ≠ "__name__" → mb y = bootBuiltins y) (lim : st.heap.NoLimit) (gens : st.gens = #[])
    (emp : ∀ p ∈ cs, st.heap.get? p.2 = some { cls := .none, data := .fields #[] }) (cod : ∀ p ∈ cs, PySem.W.CodeHd st.heap p.1 p.2)
    (bm : ∃ (m : Addr) (o : Obj), mg "__builtins__" = some (.ref m) ∧ m ≠ builtinsNs ∧ st.heap.get? m = some o ∧ o.cls = .type "module" ∧ o.dict = some builtinsNs ∧ o.data = .plain)
    (tH : ∀ p ∈ cs, H p.2 = some (.tbl #[])) (kinds : ∀ b, H b = none ∨ b ∈ cs.map (·.2) ∨ ∃ o xs, H b = some (.frz o (.lst xs))) (hok : HOk P w H st.heap)
    (seen : ∀ b o, st.heap.get? b = some o → H b ≠ none → (∃ vs n, o.data = .seq vs n) ∨ o.data = .fields #[]) (outK : ∀ b, H b ≠ none → K.lookup b = none)
    (room : Room k callerA) (F : ∀ base : Heap, K.In base → base.Ns mainGlobals mg → (∀ p ∈ cs, LamX.TabB base mg p.1 p.2) → FnG P w K mg base k fa fd [x] sp) (bind : ∀ (s : Shared) (u : Value), BindsTo s fd ⟨[u], []⟩ [(x, u)])
    (h : sp [.ref a] H (fun v _ => v = .bl true) fun _ _ _ => False) :
    codeAny (model P w) callerA (.call (.ref fa) ⟨[.ref a], []⟩) (fun r s' => r = .ok (.ret (.bool true)) ∧ OldK st.heap s'.heap ∧ s'.os = st.os ∧ AllBare s'.gens) st := by
  have free : ∀ {b : Addr} {o : Obj}, st.heap.get? b = some o → (∀ vs n, o.data ≠ .seq vs n) → o.data ≠ .fields #[] → H b = none := fun {b o} e n1 n2 => by
    refine Classical.byContradiction fun c => ?_
    rcases seen b o e c with ⟨vs, n, q⟩ | q
    · exact n1 vs n q
    · exact n2 q
  have sees : ∀ {b : Addr} {o : Obj}, st.heap.get? b = some o → (∀ vs n, o.data ≠ .seq vs n) → o.data ≠ .fields #[] → (hidT st.heap H).get? b = some o := fun e n1 n2 => hidT_get e (free e n1 n2)
  have names : ∀ {b : Addr} {m : Str → Option Value}, st.heap.Ns b m → (hidT st.heap H).Ns b m := fun ⟨o, es, ep, e, d, r⟩ =>
    ⟨o, es, ep, sees e (fun _ _ q => by rw [d] at q; cases q) (fun q => by rw [d] at q; cases q), d, r⟩
  have kin2 : K.In (hidT st.heap H) := fun b o e => hidT_get (kin b o e) (Classical.byContradiction fun c => by rw [outK b c] at e; cases e)
  have modul : L2.Mod K mg (hidT st.heap H) := ⟨kin2, names gn, ⟨mb, names bn, bb⟩, let ⟨mc, l1, l2⟩ := lim; ⟨mc, names l1, l2⟩⟩
  have tabs : ∀ p ∈ cs, LamX.TabB (hidT st.heap H) mg p.1 p.2 := fun p hp => by
    have ep := emp p hp
    have nG : ∀ {c : Addr} {m : Str → Option Value}, st.heap.Ns c m → ∀ {o : Obj}, st.heap.get? c = some o → ∃ es n, o.data = .dict es n := fun {c m} ns {o'} e' => by
      obtain ⟨o, es, n, e, d, _⟩ := ns
      rw [e] at e'
      cases e'
      exact ⟨es, n, d⟩
    refine ⟨?_, ?_, fun z => ?_⟩
    · obtain ⟨o, us, file, tf, flags, tg, inF, text, tt, e1, r1, r2, r3, rest⟩ := cod p hp
      refine ⟨o, us, file, tf, flags, tg, inF, text, tt, sees e1 (fun _ _ q => by rw [r2] at q; cases q) (fun q => ?_), r1, r2, r3, rest⟩
      rw [r2] at q
      cases q
      simp at r3
    · obtain ⟨m, o, b1, b2, b3, b4, b5, b6⟩ := bm
      refine ⟨m, o, b1, b2, fun q => ?_, fun q => ?_, sees b3 (fun _ _ q => by rw [b6] at q; cases q) (fun q => by rw [b6] at q; cases q), b4, b5, b6⟩
      · obtain ⟨es, n, d⟩ := nG gn (q ▸ b3)
        rw [b6] at d
        cases d
      · rw [q, ep] at b3
        cases b3
        cases b6
    · obtain ⟨es, n, d⟩ := nG gn (z ▸ ep)
      cases d
  have start : Env0 P w K mg (hidT st.heap H) callerA [] st H := ⟨rfl, modul, fun _ _ e => of_hidT e, Nat.le_of_eq (hidT_size _ _), trivial, fun b q => (by cases q), hok, .of_eq gens⟩
  refine codeAny_mono ((F _ kin2 (names gn) tabs).run callerA [] st H ⟨[.ref a], []⟩ [.ref a] [.ref a] _ _ rfl room start (bind st (.ref a)) (.cons rfl .nil) h) fun r s' q => ?_
  match r, q with
  | .error e, q => exact (by obtain ⟨_, _, _, _, _, _, _, _, _, _, _, _, z⟩ := q; exact z.elim)
  | .ok .next, q => exact q.elim
  | .ok .brk, q => exact q.elim
  | .ok .cont, q => exact q.elim
  | .ok (.ret u), q =>
    obtain ⟨v, H', os, bare, un, hok', rv, ev⟩ := q
    obtain rfl : v = .bl true := ev
    obtain rfl : u = Value.bool true := rv
    have same : ∀ b o, b ∉ cs.map (·.2) → st.heap.get? b = some o → s'.heap.get? b = some o := fun b o nb e => by
      rcases kinds b with z | z | ⟨ob, xs, z⟩
      · exact un.keep b o e z (fun y => by cases y) (fun y => by cases y)
      · exact absurd z nb
      · have e1 := (hok b _ z).1
        have e2 := (hok' b _ (un.frzs b ob _ z)).1
        rw [e] at e1
        rw [e2, e1]
    have more : ∀ p ∈ cs, ∃ us : Array Value, s'.heap.get? p.2 = some { cls := .none, data := .fields us } := fun p hp => by
      obtain ⟨us, z⟩ := un.tbls p.2 #[] (tH p hp)
      exact ⟨_, hok' p.2 _ z⟩
    refine ⟨rfl, ⟨fun b o e => ?_, fun b o e => ?_⟩, os, bare⟩
    · by_cases hb : b ∈ cs.map (·.2)
      · obtain ⟨p, hp, rfl⟩ := List.mem_map.mp hb
        obtain ⟨us, hu⟩ := more p hp
        rw [emp p hp] at e
        cases e
        exact .inr (.inl ⟨((cod p hp).tab (emp p hp)).isCodeTable, rfl, #[], us, rfl, by rw [Array.empty_append]; exact hu⟩)
      · exact .inl (same b o hb e)
    · by_cases hb : b ∈ cs.map (·.2)
      · obtain ⟨p, hp, rfl⟩ := List.mem_map.mp hb
        obtain ⟨us, hu⟩ := more p hp
        exact ⟨_, hu⟩
      · exact ⟨o, same b o hb e⟩
/-- the law called with its script -/
theorem law_with {fa a : Addr} {k : Nat} {fd : FuncData} {x : Str} {sp : Sp} {ns : List Int} {us : List Value} (kin : K.In st.heap) (gn : st.heap.Ns mainGlobals mg) (bn : st.heap.Ns builtinsNs mb) (bb : ∀ y : Str, y ≠ "__name__" → mb y = bootBuiltins y) (lim : st.heap.NoLimit) (gens : st.gens = #[])
    (emp : ∀ p ∈ cs, st.heap.get? p.2 = some { cls := .none, data := .fields #[] }) (nK : ∀ p ∈ cs, K.lookup p.2 = none) (cod : ∀ p ∈ cs, PySem.W.CodeHd st.heap p.1 p.2)
    (bm : ∃ (m : Addr) (o : Obj), mg "__builtins__" = some (.ref m) ∧ m ≠ builtinsNs ∧ st.heap.get? m = some o ∧ o.cls = .type "module" ∧ o.dict = some builtinsNs ∧ o.data = .plain)
    (obj : st.heap.get? a = some { cls := .type "list", data := .seq us.toArray }) (isI : IntsAre us ns) (len : ns.length ≤ sizeLine)
    (room : Room k callerA) (F : ∀ base : Heap, K.In base → base.Ns mainGlobals mg → (∀ p ∈ cs, LamX.TabB base mg p.1 p.2) → FnG P w K mg base k fa fd [x] sp) (bind : ∀ (s : Shared) (u : Value), BindsTo s fd ⟨[u], []⟩ [(x, u)])
    (h : ∀ H : Hp, (∀ p ∈ cs, H p.2 = some (.tbl #[])) → SqL K H a (ns.map V.int) → sp [.ref a] H (fun v _ => v = .bl true) fun _ _ _ => False) :
    codeAny (model P w) callerA (.call (.ref fa) ⟨[.ref a], []⟩) (fun r s' => r = .ok (.ret (.bool true)) ∧ OldK st.heap s'.heap ∧ s'.os = st.os ∧ AllBare s'.gens) st := by
  have vals := vals_ints isI
  have nA : a ∉ cs.map (·.2) := fun z => by
    obtain ⟨p, hp, e⟩ := List.mem_map.mp z
    have q := emp p hp
    rw [e, obj] at q
    cases congrArg Obj.data (Option.some.inj q)
  have atT : ∀ {b : Addr}, b ∈ cs.map (·.2) → st.heap.get? b = some { cls := .none, data := .fields #[] } ∧ K.lookup b = none := fun {b} z => by
    obtain ⟨p, hp, rfl⟩ := List.mem_map.mp z
    exact ⟨emp p hp, nK p hp⟩
  have onT : ∀ {b : Addr}, tabH cs b ≠ none → b ∈ cs.map (·.2) := fun {b} c => Classical.byContradiction fun z => c (tabH_out z)
  cases inK : K.lookup a with
  | some o =>
    have e := kin a o inK
    rw [obj] at e
    cases e
    refine law_from (H := tabH cs) (ns := ns) kin gn bn bb lim gens emp cod bm (fun p => tabH_in) (fun b => ?_) (fun b u z => ?_) (fun b o e c => .inr ?_) (fun b c => (atT (onT c)).2) room F bind
      (h _ (fun p => tabH_in) (.inr ⟨_, us.toArray, _, inK, rfl, rfl, rfl, by rw [List.size_toArray, isI.length]; exact len, by simpa using vals⟩))
    · by_cases z : b ∈ cs.map (·.2)
      · exact .inr (.inl z)
      · exact .inl (tabH_out z)
    · have z2 := onT (b := b) (by rw [z]; exact fun e => nomatch e)
      have z3 : tabH cs b = some (.tbl #[]) := if_pos z2
      rw [z] at z3
      cases z3
      exact (atT z2).1
    · rw [(atT (onT c)).1] at e
      cases e
      rfl
  | none =>
    have sees : (fun b => if b = a then some (HO.frz { cls := .type "list", data := .seq us.toArray } (.lst (ns.map V.int))) else tabH cs b) a = some (.frz { cls := .type "list", data := .seq us.toArray } (.lst (ns.map V.int))) := if_pos rfl
    have off : ∀ {b : Addr}, b ≠ a → (fun b => if b = a then some (HO.frz { cls := .type "list", data := .seq us.toArray } (.lst (ns.map V.int))) else tabH cs b) b = tabH cs b := fun n => if_neg n
    have tabs : ∀ p ∈ cs, (fun b => if b = a then some (HO.frz { cls := .type "list", data := .seq us.toArray } (.lst (ns.map V.int))) else tabH cs b) p.2 = some (.tbl #[]) := fun p hp =>
      (off fun z => nA (by rw [← z]; exact List.mem_map.mpr ⟨p, hp, rfl⟩)).trans (tabH_in hp)
    refine law_from (H := fun b => if b = a then some (HO.frz { cls := .type "list", data := .seq us.toArray } (.lst (ns.map V.int))) else tabH cs b) (ns := ns) kin gn bn bb lim gens emp cod bm tabs (fun b => ?_) (fun b u z => ?_) (fun b o e c => ?_) (fun b c => ?_) room F bind (h _ tabs (.inl (.inr ⟨_, sees⟩)))
    · by_cases n : b = a
      · exact .inr (.inr ⟨_, _, by rw [n]; exact sees⟩)
      · by_cases z : b ∈ cs.map (·.2)
        · exact .inr (.inl z)
        · exact .inl ((off n).trans (tabH_out z))
    · by_cases n : b = a
      · rw [n] at z ⊢
        have z2 := sees.symm.trans z
        cases z2
        exact ⟨obj, by rw [List.length_map]; exact len, us, _, vals, obj⟩
      · have z1 := (off n).symm.trans z
        have z2 := onT (b := b) (by rw [z1]; exact fun e => nomatch e)
        have z3 : tabH cs b = some (.tbl #[]) := if_pos z2
        rw [z1] at z3
        cases z3
        exact (atT z2).1
    · by_cases n : b = a
      · rw [n, obj] at e
        cases e
        exact .inl ⟨_, _, rfl⟩
      · have z2 := onT (b := b) (fun q => c ((off n).trans q))
        rw [(atT z2).1] at e
        cases e
        exact .inr rfl
    · by_cases n : b = a
      · rw [n]; exact inK
      · exact (atT (onT (b := b) (fun q => c ((off n).trans q)))).2
end
/-- what the law's top must give -/
def LawG (l : PySem.W.OpenLaw) (w : World) (K : PySem.W.Frag) (k n : Nat) (x : Str) (mg : Str → Option Value) (fa : Addr) (h : Heap) : Prop :=
  ∃ (fd : FuncData) (cs : List (Addr × Addr)) (sp : Sp), (∀ p ∈ cs, h.get? p.2 = some { cls := .none, data := .fields #[] }) ∧ (∀ p ∈ cs, K.lookup p.2 = none) ∧ (∀ p ∈ cs, PySem.W.CodeHd h p.1 p.2) ∧ (∀ (s : Shared) (u : Value), BindsTo s fd ⟨[u], []⟩ [(x, u)]) ∧
    (∀ (H : Hp) (a : Addr) (ns : List Int), ns.length ≤ n → (∀ z ∈ ns, Builtin.Int.intBits z ≤ 1048576) → (∀ p ∈ cs, H p.2 = some (.tbl #[])) → SqL K H a (ns.map V.int) → sp [.ref a] H (fun v _ => v = .bl true) fun _ _ _ => False) ∧
    ∀ base : Heap, K.In base → base.Ns mainGlobals mg → (∀ p ∈ cs, LamX.TabB base mg p.1 p.2) → FnG l.prog w K mg base k fa fd [x] sp
theorem walk_G {l : PySem.W.OpenLaw} {n k : Nat} {q : Program} {loose : List Str} {XP : (Str → Option Value) → Heap → Prop} {YP : World → Heap → Prop} {d : DefRec} {x : Str} (hn : l.most = some n) (hn2 : n ≤ sizeLine) (hdf : d.params.defaults = []) (hr : Room k callerA)
    (F : ∀ (w : World) (mg : Str → Option Value) (fa : Addr) (h : Heap), YP w h → h.Ns mainGlobals mg → mg d.name = some (.ref fa) → ∃ K : PySem.W.Frag, K.In h ∧ LawG l w K k n x mg fa h) :
    PySem.W.WalkO q loose XP YP l.row.toRowW d [] (fun f vs => PySem.call f vs) := by
  refine Att.attach_callB hn hdf fun w s₀ st mg mb fa o pm cd doc a us ns G Y ho hd hcd hmg obj isI len bits hg => ?_
  obtain ⟨K, kin, fd, cs, sp, t1, t2, t3, b, h, FF⟩ := F w mg fa _ Y G.T.g hmg
  exact law_with kin G.T.g G.T.b G.T.builtins G.T.nolimit hg t1 t2 t3 G.T.bmain obj isI (Nat.le_trans len hn2) hr FF b fun H tH hS => h H a ns len bits tH hS
end PB

/-! PI: an own exception whose __init__ says super().__init__(x) and self.x = x. -/
namespace PB
open PySem PySem.Spec L2
open PyProof.Rows hiding St
/-- the body of such an __init__ -/
def iniBody (f : Str) (p0 p1 p2 p3 p4 p5 p6 p7 p8 p9 : Pos) : List Stmt :=
  [.Expr (.Call (.Attribute (.Call (.Name "super" p0) [] [] p1) "__init__" p2) [.Name f p3] [] p4) p5, .Assign [.Attribute (.Name "self" p6) f p7] (.Name f p8) p9]
/-- what K tells of the class at C and its __init__ at fI -/
structure IniC (P : Program) (K : PySem.W.Frag) (C fI : Addr) (f : Str) (fd : FuncData) (q : Str) (sc : Scope) (c : Addr) : Prop where
  oex : OexC K C
  fn : ∃ oc od osl, K.lookup fI = some ⟨oc, od, .func fd, osl⟩
  code : PySem.W.codeIn K fd.code q = true
  file : ∃ cda ccl cdd ccs vs file tf, fd.code = .ref cda ∧ K.lookup cda = some ⟨ccl, cdd, .fields vs, ccs⟩ ∧ vs[2]? = some (.str file tf) ∧ ((P.main.file : Str) == file) = true
  top : (P.main.scope.names.lookup ("super" : Str)).isSome = false
  cell : ∃ cl cld csl, K.lookup c = some ⟨cl, cld, .cell (some (.ref C)), csl⟩
  clo : fd.closure = [(("__class__" : Str), c)]
  qual : fd.qualname = q
  scope : fd.scope = sc
  bi : fd.builtins = builtinsNs
  gl : fd.globals = mainGlobals
  dfl : fd.defaults = .none
  kwd : fd.kwdefaults = .none
  sub : PySem.W.mroIn K C (.ref C) = some true
  subV : PySem.W.subIn K (.ref C) (.type "ValueError") = some true
  sup : PySem.W.ks_superIn K C C "__init__" = some (some (.builtin "ValueError.__init__"))
  stat : PySem.W.nsIn K cStatics "thirdparty.any" = some none
  nof : PySem.W.findIn K (.ref C) f = some none
  nosup : PySem.W.nsIn K mainGlobals "super" = some none
/-- the scope of such an __init__ -/
structure IniS (f : Str) (sc : Scope) : Prop where
  kind : sc.kind = .function
  co : sc.isCoroutine = false
  gen : sc.isGenerator = false
  nc : ∀ x ∈ sc.names, x.2 ≠ .cell
  self : sc.names.lookup ("self" : Str) = some .local
  par : sc.names.lookup f = some .local
  sup : sc.names.lookup ("super" : Str) = some .globalImplicit
  cls : sc.names.lookup ("__class__" : Str) = some .free
  ne : f ≠ "self"
/-- the promise of such an __init__ -/
def spIni (C : Addr) (f : Str) : Sp := fun vs H Q _ => ∃ a y, vs = [.ref a, y] ∧ H a = some (exo a C none) ∧ ∀ dx, H dx = none → dx ≠ a → Q .non (upd (upd H dx (exd dx [(f, y)])) a (exo a C (some dx)))
section
variable {prog : Program} {w : World} {A : Around} {E : Value → Shared → Prop} {s : Shared}
/-- the wrapper of ValueError.__init__ called: the object's arguments are laid anew -/
theorem call_mw {u e C t0 : Addr} {rest : List Value} {Q : Value → Shared → Prop} {K : PySem.W.Frag} (hu : s.heap.get? u = some (PySem.W.kxs_mw "ValueError.__init__" e)) (T : OexC K C) (kin : K.In s.heap) (he : s.heap.get? e = some (PySem.HandSPX.excO C t0)) (hz : rest.length ≤ sizeLine)
    (hq : ∀ h' t1, (∀ b o, b ≠ e → s.heap.get? b = some o → h'.get? b = some o) → h'.get? e = some (PySem.HandSPX.excO C t1) → Q .none { s with heap := h' }) : wpAny (model prog w) A (call (.ref u) rest) Q E s := by
  obtain ⟨nm, q, N, bs, bm, sn, sub, ab, col, dd, k0, k1, k2, k3, k5, hC, hbm⟩ := T.cls
  have hC := kin _ _ hC
  obtain ⟨hh, g, d, tk, os⟩ := s
  refine wpAny_call (codeAny_of_tree ?_)
  show wpAny _ A.in1 (callAny (.ref u) ⟨rest, []⟩) _ _ _
  simp only [callAny]
  refine wpAny_bind (wpAny_load hu ?_)
  simp only [PySem.W.kxs_mw, show (Value.type "method-wrapper" == Value.type "method" || Value.type "method-wrapper" == Value.type "builtin_function_or_method" || Value.type "method-wrapper" == Value.type "method-wrapper") = true by decide, if_true]
  refine PySem.W.KFB.if_so (by decide) ?_
  refine wpAny_bind (PySem.W.check_bound_init F.excBase_ValueError.toExcCallFacts hC he rfl ?_)
  refine wpAny_bind (wpAny_pure (wpAny_pure ?_))
  refine ⟨plainId_quiet F.excBase_ValueError.init.plain _, codeAny_builtin F.excBase_ValueError.initEntry ?_⟩
  exact PySem.W.exc_init_tree (cls := .ref C) (t0 := t0) (dv := none) (c2 := .none) (c3 := .none) (b4 := .bool false) he hz fun h' k e' t' => hq h' _ k e'
end
section
variable {P : Program} {w : World} {K : PySem.W.Frag} {mg : Str → Option Value} {base : Heap} {C fI c : Addr} {f q : Str} {fd : FuncData} {sc : Scope} {k : Nat} {ar : Arg} {p0 p1 p2 p3 p4 p5 p6 p7 p8 p9 : Pos}
theorem ini_ok (I : IniC P K C fI f fd q sc c) (S : IniS f sc) (hb : fd.body = .stmts (iniBody f p0 p1 p2 p3 p4 p5 p6 p7 p8 p9)) (hp : (fd.params.posonlyargs ++ fd.params.args).head? = some ar) (hself : ar.arg = ("self" : Str)) (hd1 : (f == ("__debug__" : Str)) = false)
    (hmg : mg "super" = none) {pl : Env → Sem Bool}
    (he : ∀ env : Env, eval (.Call (.Attribute (.Call (.Name "super" p0) [] [] p1) "__init__" p2) [.Name f p3] [] p4) env = (do
      let ov ← attributeBase (.Call (.Name "super" p0) [] [] p1) "__init__" env (eval (.Call (.Name "super" p0) [] [] p1) env)
      standAt p2.atName
      let (g, first) ← holding [ov] (getMethod ov "__init__" (pl env))
      callWith p4 g first (backTo p4 (starEach [.Name f p3] env)) []))
    (hsw : ∀ env : Env, swapsWith (.Call (.Attribute (.Call (.Name "super" p0) [] [] p1) "__init__" p2) [.Name f p3] [] p4) none p5.line env = pure false)
    (hsw2 : ∀ env : Env, swapsWith (.Name f p8) (some (.Attribute (.Name "self" p6) f p7)) p9.line env = pure false) : FnOk P w K mg base (L2.CX P w) (k + 1) fI fd ["self", f] (spIni C f) := by
  obtain ⟨oc, od, osl, lk⟩ := I.fn
  obtain ⟨cda, ccl, cdd, ccs, vs0, file, tf, ecd, lcd, hvs, hfile⟩ := I.file
  obtain ⟨cl, cld, csl, lcell⟩ := I.cell
  refine ⟨fun vs H Q E h => ?_, fun A outer s H args us vs Q E hr e0 hbind hv h => ?_⟩
  · obtain ⟨a, y, rfl, _⟩ := h
    rfl
  obtain ⟨a, y, rfl, ha, cont⟩ := h
  obtain ⟨u0, u, rfl, r0, ry⟩ := vals2 hv
  obtain rfl : u0 = Value.ref a := r0
  have KX : K.In s.heap := e0.mod.kin.keeps fun b o e => (e0.bs b o e).1
  have lim : s.heap.NoLimit := e0.mod.nolimit.keeps fun b o e => (e0.bs b o e).1
  have gn : s.heap.Ns mainGlobals mg := e0.mod.glob.keeps fun b o e => (e0.bs b o e).1
  obtain ⟨mb, bn, bb⟩ := e0.mod.blt
  have bn : s.heap.Ns builtinsNs mb := bn.keeps fun b o e => (e0.bs b o e).1
  obtain ⟨t1, hax⟩ := exo_at e0.hok ha
  obtain ⟨n1, n2, n3, n4, n5, n6, n7, n8, n9, n10, n11, n12, n13, n14, n15⟩ := fd
  have h2 := I.qual
  have h4 := I.scope
  have h7 := I.clo
  have h6 := I.gl
  have h15 := I.bi
  have hcode := I.code
  dsimp only at hb hp h2 h4 h7 h6 h15 ecd hcode
  subst h2 h4 h7 h6 h15 ecd hb
  refine ks_codeAny_call_defAt hr.depth (KX _ _ lk) rfl lim (PySem.W.codeRec_of KX hcode) rfl hbind S.nc (fun z hz => ?_) (fun h0 hns keep0 => ?_) S.co S.gen S.kind
  · have hz : z ∈ [(("self" : Str), Value.ref a), (f, u)] := hz
    simp only [List.mem_cons, List.not_mem_nil, or_false] at hz
    rcases hz with rfl | rfl
    · exact S.self
    · exact S.par
  have ns1 : h0.Ns s.heap.objs.size (fun x => [(f, u), (("self" : Str), Value.ref a)].lookup x) := hns
  have lself : [(f, u), (("self" : Str), Value.ref a)].lookup ("self" : Str) = some (.ref a) := by
    have : (("self" : Str) == f) = false := by
      have := S.ne
      simp only [beq_eq_false_iff_ne, ne_eq]
      exact fun e => this e.symm
    rw [List.lookup_cons, this]; rfl
  have lpar : [(f, u), (("self" : Str), Value.ref a)].lookup f = some u := by
    rw [List.lookup_cons, beq_self_eq_true]
  have X0 : K.In h0 := KX.keeps keep0
  generalize hfd : (FuncData.mk n1 n2 n3 (.stmts (iniBody f p0 p1 p2 p3 p4 p5 p6 p7 p8 p9)) n5 mainGlobals [(("__class__" : Str), c)] n8 n9 n10 n11 n12 (.ref cda) n14 builtinsNs) = fd at *
  have kd : (callEnv fd s.heap.objs.size fI).scope.kind = .function := by rw [← hfd]; exact S.kind
  have inter : interactive (callEnv fd s.heap.objs.size fI) = false := by
    unfold interactive
    rw [kd]; rfl
  have ksup : (callEnv fd s.heap.objs.size fI).kindOf "super" = some .globalImplicit := by rw [← hfd]; exact S.sup
  have kcls : (callEnv fd s.heap.objs.size fI).kindOf "__class__" = some .free := by rw [← hfd]; exact S.cls
  have kself : (callEnv fd s.heap.objs.size fI).kindOf "self" = some .local := by rw [← hfd]; exact S.self
  have kpar : (callEnv fd s.heap.objs.size fI).kindOf f = some .local := by rw [← hfd]; exact S.par
  have efun : (callEnv fd s.heap.objs.size fI).func = some fI := by rw [← hfd]; rfl
  have ecode : (callEnv fd s.heap.objs.size fI).code = .ref cda := by rw [← hfd]; rfl
  have ecell : (callEnv fd s.heap.objs.size fI).cells.lookup ("__class__" : Str) = some c := by rw [← hfd]; rfl
  have eloc : (callEnv fd s.heap.objs.size fI).locals = s.heap.objs.size := by rw [← hfd]; rfl
  have eglo : (callEnv fd s.heap.objs.size fI).globals = mainGlobals := by rw [← hfd]; rfl
  have eblt : (callEnv fd s.heap.objs.size fI).builtins = builtinsNs := by rw [← hfd]; rfl
  have hps : (fd.params.posonlyargs ++ fd.params.args).head? = some ar := by rw [← hfd]; exact hp
  generalize callEnv fd s.heap.objs.size fI = env at *
  obtain ⟨nmC, qC, NC, bsC, bmC, snC, subC, abC, colC, ddC, k0, k1, k2, k3, k5, lC, hbm⟩ := I.oex.cls
  have hcl : PySem.W.clsIn K C = some { name := nmC, bases := bsC, mro := .ref C :: bmC, ns := NC, qualname := qC, hasDict := true, slotNames := snC, subclasses := subC, abstract := abC, collection := colC, hasDel := false } := by
    unfold PySem.W.clsIn; rw [lC] <;> rfl
  have ha0 := keep0 _ _ hax
  refine ks_wpAt_execs_cons (ks_wpAt_Expr_any (ks_wpAt_MethodCall (ks_wpAt_super_base ksup kcls (by decide) efun (X0 _ _ lk) rfl hps ecode (X0 _ _ lcd) rfl hvs hfile I.top ?_) (he _)) inter (hsw _))
  refine PySem.W.ks_loadName_global kd ksup (PySem.Calls.loadGlobal_builtin (by rw [eglo]; exact gn.keeps keep0) hmg (by rw [eblt]; exact bn.keeps keep0) ((bb _ (by decide)).trans (by decide +kernel : bootBuiltins "super" = some (.type "super"))) ⟨rfl, ?_⟩)
  refine wpAny_loadName_free kd kcls ecell ⟨_, X0 _ _ lcell, rfl⟩ ?_
  refine wpAny_loadName_local kd (by rw [hself]; exact kself) (by rw [eloc]; exact ns1) (by rw [hself]; exact lself) ?_
  refine ks_wpAny_isType_cls (X0 _ _ lC) rfl ⟨rfl, ?_⟩
  obtain ⟨hs, g0, d0, tk0, os0⟩ := s
  refine ks_wpAny_call_super (X0 _ _ lC) rfl ha0 rfl (fun c' e' => by cases e') (PySem.W.looks_mroIn X0 I.sub) (fun h1 hso keep1 => ?_)
  have X1 : K.In h1 := X0.keeps keep1
  have ha1 := keep1 _ _ ha0
  have sup2 : PySem.W.alongIn K "__init__" (((Value.ref C :: bmC).dropWhile (· != .ref C)).drop 1) = some (some (.builtin "ValueError.__init__")) := by
    have := I.sup
    unfold PySem.W.ks_superIn at this
    rw [hcl] at this
    exact this
  refine PySem.W.kxs_getMethod PySem.W.kxs_ValueError hso (PySem.W.looks_opaque X1 I.stat) (l₀ := .ref C :: bmC) (fun A Q E s k q => wpAny_bind ((PySem.W.looks_clsIn X1 hcl) A _ E s k (wpAny_pure q))) rfl X1 sup2
    ((show PySem.W.InstAt h1 a _ C none from ⟨ha1, rfl, rfl, trivial⟩).type.andThen (PySem.W.looks_subIn X1 I.subV)) (fun e' => ?_) (by decide) ?_
  · rw [e'] at ha1
    rw [X1 _ _ lC] at ha1
    cases ha1
  have X2 : K.In (h1.push (PySem.W.kxs_mw "ValueError.__init__" a)) := X1.keeps fun b o e' => Heap.get?_push_of_some _ e'
  have hu : (h1.push (PySem.W.kxs_mw "ValueError.__init__" a)).get? h1.objs.size = some (PySem.W.kxs_mw "ValueError.__init__" a) := Heap.get?_push_at rfl rfl
  have keep2 : ∀ b o, hs.get? b = some o → (h1.push (PySem.W.kxs_mw "ValueError.__init__" a)).get? b = some o := fun b o e' => Heap.get?_push_of_some _ (keep1 _ _ (keep0 _ _ e'))
  have ns2 : (h1.push (PySem.W.kxs_mw "ValueError.__init__" a)).Ns hs.objs.size (fun x => [(f, u), (("self" : Str), Value.ref a)].lookup x) := ns1.keeps fun b o e' => Heap.get?_push_of_some _ (keep1 _ _ e')
  show wpAny _ _ (callWith p4 (.ref h1.objs.size) [] ((false, eval (.Name f p3) env) :: backTo p4 (starEach [] env)) []) _ _ _
  refine PySem.W.kxs_callWith (i := "ValueError.__init__") (x := a) rfl (PySem.Calls.evalArgs_plain (PySem.Calls.spliced_cons (wpAny_Name (wpAny_loadName_local kd kpar (by rw [eloc]; exact ns2) lpar (PySem.Calls.spliced_nil ⟨hu, ?_⟩)) hd1)))
  refine call_mw hu I.oex X2 (Heap.get?_push_of_some _ ha1) (show 1 ≤ sizeLine by decide) (fun h3 t3 keep3 ha3 => ?_)
  have nC : C ≠ a := fun e' => by
    have z := X2 _ _ lC
    rw [e', Heap.get?_push_of_some _ ha1] at z
    cases z
  have nL : hs.objs.size ≠ a := Nat.ne_of_gt (Heap.lt_size hax)
  have X3 : K.In h3 := fun b o e' => keep3 b o (fun z => by
    rw [z] at e'
    have z2 := (e0.bs a _ (e0.mod.kin _ _ e')).2
    rw [ha] at z2
    cases z2) (X2 b o e')
  have ns3 : h3.Ns hs.objs.size (fun x => [(f, u), (("self" : Str), Value.ref a)].lookup x) := ns2.at fun o e' => keep3 _ o nL e'
  refine ks_wpAt_execs_cons (ks_wpAt_Assign_Attr (wpAt_of_wpAny (wpAny_Name (wpAny_loadName_local kd kpar (by rw [eloc]; exact ns3) lpar (wpAny_Name (wpAny_loadName_local kd kself (by rw [eloc]; exact ns3) lself ?_) (by decide))) hd1)) (hsw2 _))
  refine PySem.W.set_plain X3 (ox := PySem.HandSPX.excO C t3) (od := none) ⟨ha3, rfl, rfl, trivial⟩ I.oex.sa ?_
  refine PySem.HandSPX.exc_osa X3 ha3 hcl (show PySem.HandSPX.refsVE (.ref C :: bmC) = true from hbm) rfl I.nof (fun h4 tk4 dx keep4 dn dne ha4 hn4 => ?_)
  refine wpAt_of_wpAny (wpAny_execs_nil ?_)
  have hsz : hs.objs.size ≤ dx := by
    have l1 : h1.objs.size < h3.objs.size := by
      obtain ⟨o, ho⟩ : ∃ o, h3.get? h1.objs.size = some o := by
        by_cases z : h1.objs.size = a
        · exact ⟨_, by rw [z]; exact ha3⟩
        · exact ⟨_, keep3 _ _ z hu⟩
      exact Heap.lt_size ho
    have l2 : hs.objs.size ≤ h1.objs.size := by
      obtain ⟨oL, _, _, hL, _⟩ := ns1
      exact Nat.le_of_lt (Heap.lt_size (keep1 _ _ hL))
    have l3 : h3.objs.size ≤ dx := dn
    omega
  have nd : H dx = none := e0.hok.fresh hsz
  have nda : ∀ {b : Addr} {o : Obj}, hs.get? b = some o → b ≠ dx := fun {b o} z => Nat.ne_of_lt (Nat.lt_of_lt_of_le (Heap.lt_size z) hsz)
  have na : ∀ {b : Addr}, H b = none → b ≠ a := fun {b} n z => by
    rw [z, ha] at n
    cases n
  have keep : ∀ b o, b ≠ a → hs.get? b = some o → h4.get? b = some o := fun b o n z => keep4 b o n (keep3 b o n (keep2 b o z))
  refine ⟨.non, _, rfl, e0.bare, ⟨fun b o z n _ _ => keep b o (na n) z, fun b o z n _ _ => ⟨o.slots, keep b o (na n) z⟩, fun b o z n _ => by rw [upd_ne (na n), upd_ne (nda z)]; exact n, fun b o z _ => ?_, fun b xs z => ?_, fun b o v z => ?_, fun b ps z => ⟨#[], ?_⟩⟩, fun b o z => ?_, rfl, cont dx nd dne⟩
  · by_cases n : b = a
    · exact ⟨_, by rw [n]; exact ha4⟩
    · exact ⟨o, keep b o n z⟩
  · rw [upd_ne (at_ne ha z exo_tup), upd_ne (ne_of_none z nd)]; exact z
  · rw [upd_ne (at_ne ha z exo_frz), upd_ne (ne_of_none z nd)]; exact z
  · rw [upd_ne (at_ne ha z exo_tbl), upd_ne (ne_of_none z nd), z]; simp
  · by_cases n : b = a
    · rw [n, upd_same] at z
      cases z
      rw [n]
      exact exo_ok ha4
    · rw [upd_ne n] at z
      by_cases m : b = dx
      · rw [m, upd_same] at z
        cases z
        rw [m]
        exact exd_ok hn4 (relO_put (fs := []) ry fun g => True.intro)
      · rw [upd_ne m] at z
        exact (e0.hok b o z).stay (fun e v he' hz => keep e v (by
            rcases he' with he' | he'
            · rw [he']; exact n
            · exact at_ne ha he' exo_own) hz)
          (fun e he' => by rw [upd_ne (at_ne ha he' exo_own), upd_ne (ne_of_none he' nd)]; exact he') (fun e xs he' => by rw [upd_ne (at_ne ha he' exo_tup), upd_ne (ne_of_none he' nd)]; exact he')
end
end PB

/-! PH: the head tells own exceptions too; raising and catching them; a lambda that is called in a try. -/
namespace PB
open PySem PySem.Spec L2
open PyProof.Rows hiding St
/-- an own exception: its name, its field, its __init__ -/
structure IniD where
  x : Str
  f : Str
  params : Arguments
  body : List Stmt
  scope : Scope
abbrev IniW : Type := Option (Str × Arguments × FuncBody × Scope × Addr × List Str × Addr)
def clsA (K : PySem.W.Frag) (x : Str) : Addr := He.ga K x
def iniA (K : PySem.W.Frag) (x : Str) : Addr := He.ma K (He.ga K x) "__init__"
def iniW (K : PySem.W.Frag) (x : Str) : IniW := match K.lookup (iniA K x) with
  | some ⟨_, _, .func fd, _⟩ => some (fd.qualname, fd.params, fd.body, fd.scope, fd.globals, fd.closure.map (·.1), fd.builtins)
  | _ => none
def IniD.val (d : IniD) : IniW := some (d.x ++ ".__init__", d.params, .stmts d.body, d.scope, mainGlobals, ["__class__"], builtinsNs)
def oexB (K : PySem.W.Frag) (C : Addr) : Bool := (match K.lookup C with
  | some ⟨.type "type", _, .cls cd, sl⟩ => (match cd.mro, sl.toList with
    | .ref C' :: bm, [_, _, _, _, some (.builtin n), _] => C' == C && (n == "ValueError.__new__" && (!cd.hasDel && (cd.hasDict && PySem.HandSPX.refsVE bm)))
    | _, _ => false)
  | _ => false)
def cloB (K : PySem.W.Frag) (file q : Str) (C fI : Addr) : Bool := match K.lookup fI with
  | some ⟨_, _, .func fd, _⟩ => (PySem.W.codeIn K fd.code q && (decide (fd.defaults = .none) && decide (fd.kwdefaults = .none))) && ((match fd.code with
    | .ref c => (match K.lookup c with
      | some ⟨_, _, .fields vs, _⟩ => (match vs[2]? with
        | some (Value.str g _) => file == g
        | _ => false)
      | _ => false)
    | _ => false) && (match fd.closure with
    | [(_, c)] => (match K.lookup c with
      | some ⟨_, _, .cell (some (.ref D)), _⟩ => D == C
      | _ => false)
    | _ => false))
  | _ => false
def eqS (a b : Option (Option Value)) : Bool := decide (a = b)
/-- all that is asked of K for such a class -/
def iniB (P : Program) (K : PySem.W.Frag) (d : IniD) : Bool :=
  oexB K (clsA K d.x) && (cloB K P.main.file (d.x ++ ".__init__") (clsA K d.x) (iniA K d.x) && (!(P.main.scope.names.lookup ("super" : Str)).isSome && (decide (PySem.W.mroIn K (clsA K d.x) (.ref (clsA K d.x)) = some true) &&
  (decide (PySem.W.subIn K (.ref (clsA K d.x)) (.type "ValueError") = some true) && (eqS (PySem.W.ks_superIn K (clsA K d.x) (clsA K d.x) "__init__") (some (some (.builtin "ValueError.__init__"))) && (eqS (PySem.W.nsIn K cStatics "thirdparty.any") (some none) &&
  (eqS (PySem.W.findIn K (.ref (clsA K d.x)) d.f) (some none) && (eqS (PySem.W.nsIn K mainGlobals "super") (some none) && (eqS (PySem.W.findIn K (.ref (clsA K d.x)) "__setattr__") (some (some (.builtin "object.__setattr__"))) &&
  (decide (PySem.W.typeIn K (.ref (clsA K d.x)) = some (.type "type")) && (PySem.W.keepIn K (.ref (clsA K d.x)) && (xfB K (clsA K d.x) && (eqS (PySem.W.findIn K (.ref (clsA K d.x)) "__init__") (some (some (.ref (iniA K d.x)))) &&
  (decide (PySem.W.typeIn K (.ref (iniA K d.x)) = some (.type "function")) && (decide (PySem.W.exmOne K (.ref (clsA K d.x)) (.ref (clsA K d.x)) = some true) && eqS (PySem.W.nsIn K mainGlobals d.x) (some (some (.ref (clsA K d.x)))))))))))))))))))
theorem oexB_ok {K : PySem.W.Frag} {C : Addr} (h : oexB K C = true) : ∃ nm q N bs bm sn sub ab col dd k0 k1 k2 k3 k5, K.lookup C = some (excClassObj nm q C N bs bm true sn sub ab col dd k0 k1 k2 k3 k5 "ValueError.__new__") ∧ PySem.HandSPX.refsVE bm = true := by
  unfold oexB at h
  split at h
  · rename_i dd cd sl ho
    split at h
    · rename_i C' bm k0 k1 k2 k3 n k5 hm hs
      simp only [Bool.and_eq_true, beq_iff_eq, Bool.not_eq_true'] at h
      obtain ⟨rfl, rfl, hdel, hdict, hv⟩ := h
      obtain ⟨nm, bs, mro, ns, qn, hd, sn, sub, ab, col, del⟩ := cd
      dsimp only at hm hdel hdict
      subst hm hdel hdict
      obtain ⟨l⟩ := sl
      dsimp only at hs
      subst hs
      exact ⟨nm, qn, ns, bs, bm, sn, sub, ab, col, dd, k0, k1, k2, k3, k5, ho, hv⟩
    · cases h
  · cases h
/-- the facts of one class -/
structure IniF (P : Program) (K : PySem.W.Frag) (d : IniD) : Prop where
  ic : ∃ fd c, IniC P K (clsA K d.x) (iniA K d.x) d.f fd (d.x ++ ".__init__") d.scope c ∧ fd.params = d.params ∧ fd.body = .stmts d.body
  xf : XfC K (clsA K d.x)
  init : PySem.W.findIn K (.ref (clsA K d.x)) "__init__" = some (some (.ref (iniA K d.x)))
  tyI : PySem.W.typeIn K (.ref (iniA K d.x)) = some (.type "function")
  exm : PySem.W.exmOne K (.ref (clsA K d.x)) (.ref (clsA K d.x)) = some true
  glo : PySem.W.nsIn K mainGlobals d.x = some (some (.ref (clsA K d.x)))
theorem iniF_of {P : Program} {K : PySem.W.Frag} {d : IniD} (e : iniW K d.x = d.val) (h : iniB P K d = true) : IniF P K d := by
  unfold iniB at h
  simp only [Bool.and_eq_true, eqS, decide_eq_true_eq, Bool.not_eq_true'] at h
  obtain ⟨h1, h2, h3, h4, h5, h6, h7, h8, h9, h10, h11, h12, h13, h14, h15, h16, h17⟩ := h
  refine ⟨?_, xfB_ok h13, h14, h15, h16, h17⟩
  unfold iniW at e
  unfold cloB at h2
  split at e
  · rename_i oc od fd osl lk
    rw [lk] at h2
    obtain ⟨n1, n2, n3, n4, n5, n6, n7, n8, n9, n10, n11, n12, n13, n14, n15⟩ := fd
    unfold IniD.val at e
    simp only [Option.some.injEq, Prod.mk.injEq] at e
    obtain ⟨e1, e2, e3, e4, e5, e6, e7⟩ := e
    subst e1 e2 e3 e4 e5 e7
    simp only [Bool.and_eq_true, decide_eq_true_eq] at h2
    obtain ⟨⟨g1, d1, d2⟩, g2, g3⟩ := h2
    have file : ∃ cda ccl cdd ccs vs file tf, n13 = .ref cda ∧ K.lookup cda = some ⟨ccl, cdd, .fields vs, ccs⟩ ∧ vs[2]? = some (.str file tf) ∧ ((P.main.file : Str) == file) = true := by
      split at g2
      · rename_i c
        split at g2
        · rename_i ccl cdd vs ccs lc
          split at g2
          · rename_i file tf hv
            exact ⟨c, ccl, cdd, ccs, vs, file, tf, rfl, lc, hv, g2⟩
          · cases g2
        · cases g2
      · cases g2
    have clo : ∃ c, n7 = [(("__class__" : Str), c)] ∧ ∃ cl cld csl, K.lookup c = some ⟨cl, cld, .cell (some (.ref (clsA K d.x))), csl⟩ := by
      split at g3
      · rename_i y c
        split at g3
        · rename_i cl cld D csl lc
          simp only [List.map_cons, List.map_nil, List.cons.injEq, and_true] at e6
          have := beq_iff_eq.mp g3
          subst this
          exact ⟨c, by rw [e6], cl, cld, csl, lc⟩
        · cases g3
      · cases g3
    obtain ⟨c, c1, c2⟩ := clo
    have xf := xfB_ok h13
    exact ⟨_, c, ⟨⟨oexB_ok h1, h10, xf.exC, h11, h12⟩, ⟨oc, od, osl, lk⟩, g1, file, by simpa using h3, c2, c1, rfl, rfl, rfl, rfl, d1, d2, h4, h5, h6, h7, h8, h9⟩, rfl, rfl⟩
  · cases e
/-! ### the Hook -/
def asI (g : Addr → Option Obj) (n : Nat) : List Addr := He.asD g n ++ [cStatics]
abbrev AlI : Type := (He.AlT × Bool) × List IniW
def obsI (n : Nat) (fa : List He.Fa) (fn : List He.DefD) (ts : List He.Tab) (tf : List He.Defn) (is : List IniD) (ex : PySem.W.Frag → Bool) (g : Addr → Option Obj) : AlI :=
  ((He.obsT fa fn ts (He.frT g (asI g n)), ex (He.frT g (asI g n)) && He.tabsB g tf (He.frT g (asI g n))), is.map fun d => iniW (He.frT g (asI g n)) d.x)
def valI (fn : List He.DefD) (ts : List He.Tab) (is : List IniD) (w : World) : AlI := ((He.valT fn ts w, true), is.map IniD.val)
structure SaysI (fa : List He.Fa) (fn : List He.DefD) (ts : List He.Tab) (tf : List He.Defn) (is : List IniD) (ex : PySem.W.Frag → Bool) (w : World) (h : Heap) (K : PySem.W.Frag) : Prop where
  x : He.SaysX fa fn ts tf ex w h K
  ini : (is.map fun d => iniW K d.x) = is.map IniD.val
theorem saysI_of {n : Nat} {fa : List He.Fa} {fn : List He.DefD} {ts : List He.Tab} {tf : List He.Defn} {is : List IniD} {ex : PySem.W.Frag → Bool} {w : World} {h : Heap} (e : obsI n fa fn ts tf is ex h.get? = valI fn ts is w) :
    SaysI fa fn ts tf is ex w h (He.frT h.get? (asI h.get? n)) := by
  have e1 : He.obsT fa fn ts (He.frT h.get? (asI h.get? n)) = He.valT fn ts w := congrArg (fun z : AlI => z.1.1) e
  have e2 : (ex (He.frT h.get? (asI h.get? n)) && He.tabsB h.get? tf (He.frT h.get? (asI h.get? n))) = true := congrArg (fun z : AlI => z.1.2) e
  have e3 : (is.map fun d => iniW (He.frT h.get? (asI h.get? n)) d.x) = is.map IniD.val := congrArg (fun z : AlI => z.2) e
  rw [Bool.and_eq_true] at e2
  have at_ : ∀ p ∈ tf, PySem.W.codeHdIn (He.frT h.get? (asI h.get? n)) (He.cT (He.frT h.get? (asI h.get? n)) p).1 (He.cT (He.frT h.get? (asI h.get? n)) p).2 = true ∧ ∃ o, h.get? (He.cT (He.frT h.get? (asI h.get? n)) p).2 = some o ∧ He.emptyTab o = true := fun p hp => by
    have q := List.all_eq_true.mp e2.2 p hp
    rw [Bool.and_eq_true] at q
    refine ⟨q.1, ?_⟩
    have q2 := q.2
    split at q2
    · rename_i o ho
      exact ⟨o, ho, q2⟩
    · cases q2
  refine ⟨⟨e1, e2.1, fun p hp => (at_ p hp).1, fun p hp => ?_, fun p hp => ?_⟩, e3⟩
  · obtain ⟨_, o, ho, z⟩ := at_ p hp
    exact He.frT_none ho z
  · obtain ⟨_, o, ho, z⟩ := at_ p hp
    rw [ho, He.emptyTab_eq z]
def hookI (n : Nat) (fa : List He.Fa) (fn : List He.DefD) (ts : List He.Tab) (tf : List He.Defn) (is : List IniD) (ex : PySem.W.Frag → Bool) : PySem.W.Hook where
  α := AlI
  obs := fun s => obsI n fa fn ts tf is ex s.heap.get?
  val := fun w => valI fn ts is w
  says := fun w h => ∃ K : PySem.W.Frag, K.In h ∧ SaysI fa fn ts tf is ex w h K
  of := fun _ _ e => ⟨_, He.frT_in, saysI_of e⟩
  keeps := fun _ _ _ ⟨K, hK, c⟩ k => ⟨K, PySem.W.Frag.In.keeps hK k, ⟨⟨c.x.t, c.x.more, c.x.hd, c.x.out, fun p hp => k _ _ (c.x.empty p hp)⟩, c.ini⟩⟩
theorem obsI_eq {n : Nat} {fa : List He.Fa} {fn : List He.DefD} {ts : List He.Tab} {tf : List He.Defn} {is : List IniD} {ex : PySem.W.Frag → Bool} {g : Addr → Option Obj} {s : Shared} (h : ∀ a, g a = s.heap.get? a) : obsI n fa fn ts tf is ex g = (hookI n fa fn ts tf is ex).obs s := by
  have e : g = s.heap.get? := funext h
  rw [e]; rfl
theorem SaysI.iniF {P : Program} {fa : List He.Fa} {fn : List He.DefD} {ts : List He.Tab} {tf : List He.Defn} {is : List IniD} {ex : PySem.W.Frag → Bool} {w : World} {h : Heap} {K : PySem.W.Frag} (c : SaysI fa fn ts tf is ex w h K) (hex : ∀ K d, ex K = true → d ∈ is → iniB P K d = true) (i : Nat) {d : IniD} (hi : is[i]? = some d := by rfl) : IniF P K d := by
  have e2 : (is.map fun d => iniW K d.x)[i]? = (is.map IniD.val)[i]? := by rw [c.ini]
  rw [List.getElem?_map, List.getElem?_map, hi] at e2
  exact iniF_of (Option.some.inj e2) (hex K d c.x.more (List.mem_of_getElem? hi))
/-! ### raising -/
/-- the own exception by its name -/
def Own (P : Program) (w : World) (K : PySem.W.Frag) (mg : Str → Option Value) (base : Heap) (k : Nat) (x f : Str) : Prop :=
  mg x = some (.ref (clsA K x)) ∧ OexC K (clsA K x) ∧ PySem.W.findIn K (.ref (clsA K x)) "__init__" = some (some (.ref (iniA K x))) ∧ PySem.W.typeIn K (.ref (iniA K x)) = some (.type "function") ∧
    (XfC K (clsA K x) ∧ PySem.W.findIn K (.ref (clsA K x)) f = some none) ∧ PySem.W.exmOne K (.ref (clsA K x)) (.ref (clsA K x)) = some true ∧
    ∃ fd, FnOk P w K mg base (L2.CX P w) k (iniA K x) fd ["self", f] (spIni (clsA K x) f) ∧ Binds K fd ["self", f] []
theorem own_of {P : Program} {w : World} {K : PySem.W.Frag} {mg : Str → Option Value} {base : Heap} {d : IniD} {ar : Arg} {p0 p1 p2 p3 p4 p5 p6 p7 p8 p9 : Pos} {pl : Env → Sem Bool} (F : IniF P K d) (kin : K.In base) (gl : base.Ns mainGlobals mg) (S : IniS d.f d.scope)
    (hb : d.body = iniBody d.f p0 p1 p2 p3 p4 p5 p6 p7 p8 p9) (hp : (d.params.posonlyargs ++ d.params.args).head? = some ar) (hself : ar.arg = ("self" : Str)) (hd1 : (d.f == ("__debug__" : Str)) = false)
    (he : ∀ env : Env, eval (.Call (.Attribute (.Call (.Name "super" p0) [] [] p1) "__init__" p2) [.Name d.f p3] [] p4) env = (do
      let ov ← attributeBase (.Call (.Name "super" p0) [] [] p1) "__init__" env (eval (.Call (.Name "super" p0) [] [] p1) env)
      standAt p2.atName
      let (g, first) ← holding [ov] (getMethod ov "__init__" (pl env))
      callWith p4 g first (backTo p4 (starEach [.Name d.f p3] env)) []))
    (hsw : ∀ env : Env, swapsWith (.Call (.Attribute (.Call (.Name "super" p0) [] [] p1) "__init__" p2) [.Name d.f p3] [] p4) none p5.line env = pure false)
    (hsw2 : ∀ env : Env, swapsWith (.Name d.f p8) (some (.Attribute (.Name "self" p6) d.f p7)) p9.line env = pure false)
    (hbind : ∀ (n1 : Str) (c : Addr) (doc pm cd ct : Value) (an : Option Addr) (us : List Value), us.length = 2 → bindArgs (FuncData.mk n1 (d.x ++ ".__init__") d.params (.stmts d.body) d.scope mainGlobals [(("__class__" : Str), c)] .none .none doc pm an cd ct builtinsNs) ⟨us, []⟩ = pure ((["self", d.f] : List Str).zip us)) :
    Own P w K mg base 1 d.x d.f := by
  obtain ⟨fd, c, I, e1, e2⟩ := F.ic
  refine ⟨PySem.W.mg_of kin gl F.glo, I.oex, F.init, F.tyI, ⟨F.xf, I.nof⟩, F.exm, fd, ini_ok I S (by rw [e2, hb]) (by rw [e1]; exact hp) hself hd1 (PySem.W.mg_none_of kin gl I.nosup) he hsw hsw2, ?_⟩
  refine Binds.all fun us hl => ?_
  obtain ⟨n1, n2, n3, n4, n5, n6, n7, n8, n9, n10, n11, n12, n13, n14, n15⟩ := fd
  have h2 := I.qual
  have h4 := I.scope
  have h7 := I.clo
  have h6 := I.gl
  have h15 := I.bi
  have h8 := I.dfl
  have h9 := I.kwd
  dsimp only at e1 e2 h2 h4 h7 h6 h15 h8 h9
  subst e1 e2 h2 h4 h7 h6 h15 h8 h9
  exact hbind _ _ _ _ _ _ _ _ hl
/-- what a raise of it wants: the exception is new, its dict has the field -/
def mkQ (C : Addr) (f : Str) (R : XK) : VK := fun y H1 => [y].length ≤ 1000 ∧ ∀ a, H1 a = none → spIni C f (.ref a :: ([y] ++ [])) (upd H1 a (exo a C none))
  (fun v H2 => v = .non ∧ ∃ (d : Addr) (fs : List (Str × V)), H2 a = some (exo a C (some d)) ∧ H2 d = some (exd d fs) ∧ H1 d = none ∧ R (.ref C) (some d) (upd (del H2 a) d (.xd fs))) (fun _ _ _ => False)
def tRais (C : Addr) (f : Str) (te : TE) (W : WX) : TS := fun _ σ H => te σ H (mkQ C f fun cls d H' => W cls d σ H')
theorem r_rais {C : Addr} {f : Str} {te : TE} {W : WX} {D : Ends} {σ : St} {H : Hp} (h : te σ H (mkQ C f fun cls d H' => W cls d σ H')) : tRais C f te W D σ H := h
theorem r_mkQ {C : Addr} {f : Str} {R : XK} {y : V} {H : Hp} (h : ∀ d H', H d = none → Ex H H' → H' d = some (.xd [(f, y)]) → R (.ref C) (some d) H') : mkQ C f R y H := by
  refine ⟨(show 1 ≤ 1000 by decide), fun a ha => ⟨a, y, rfl, upd_same, fun dx hd hda => ⟨rfl, dx, [(f, y)], upd_same, ?_, ?_, h dx _ ?_ (fun b o hb => ?_) upd_same⟩⟩⟩
  · rw [upd_ne hda, upd_same]
  · rw [upd_ne hda] at hd
    exact hd
  · rw [upd_ne hda] at hd
    exact hd
  · rw [upd_ne hda] at hd
    have n1 : b ≠ dx := fun e => by rw [e, hd] at hb; cases hb
    have n2 : b ≠ a := fun e => by rw [e, ha] at hb; cases hb
    rw [upd_ne n1, del_ne n2, upd_ne n2, upd_ne n1, upd_ne n2]
    exact hb
theorem ps_own {X : Cx} {K : PySem.W.Frag} {W : WX} {k j : Nat} {x f : Str} {e : Expr} {te : TE} {p pos pos' : Pos} (eK : X.K = K) (O : Own X.prog X.w X.K X.mg X.base k x f) (hc : X.calm = true) (tk : Takes X W) (hr : Room j X.A) (hk : k + 1 ≤ j) (hx : Passes (L2.CX X.prog X.w) X fun _ _ _ => False) (he : PE X e te)
    (hg : Gl X x := by rfl) (hdb : (x == ("__debug__" : Str)) = false := by decide) (hs : starEach [e] X.env = [(false, eval e X.env)] := by rfl) :
    PS X (.Raise (some (.Call (.Name x p) [e] [] pos)) none pos') (tRais (clsA K x) f te W) := by
  subst eK
  obtain ⟨hm, T, iC, tI, _, _, fd, F, b⟩ := O
  exact ps_raise hc tk (pmk_oex (e := e) (es := []) T iC tI F (hr.mono hk) b .nil hx hg hm (pa_cons he pa_nil hs) hdb hs rfl)
/-! ### a lambda called in a try -/
/-- what it was: what the exception's field says, or ret -/
def TTref (C : Addr) (f ret : Str) : (XK → Hp → VK → Prop) → Hp → VK → Prop := fun tl H Q =>
  tl (fun cls d H' => cls = .ref C ∧ ∃ dd v, d = some dd ∧ H' dd = some (.xd [(f, v)]) ∧ Q v H') H fun _ H' => Q (.str ret) H'
theorem takes_len {X : Cx} {W : WX} {n : Nat} (hn : X.N.length = n) (t : Takes X W) : Takes X fun cls d σ H => σ.length = n → W cls d σ H := fun u s' ⟨a, B, sI, pins, σ, H, cls, d, e, I, nb, up, sky, na, os, ag, q⟩ =>
  t u s' ⟨a, B, sI, pins, σ, H, cls, d, e, I, nb, up, sky, na, os, ag, q (by rw [← hn]; exact I.len)⟩
theorem ref_gives {X : Cx} {x a e n f q ret : Str} {sg : Scope} {g CS : Addr} {cdg : Value} {j : Nat} {p1 p2 p3 p4 p5 p6 p7 p8 p9 p10 p11 : Pos} (hge : sg.names.lookup e = some .globalImplicit) (hme : X.mg e = some (.ref CS)) (hde : (e == ("__debug__" : Str)) = false)
    (T : XfC X.K CS) (hno : PySem.W.findIn X.K (.ref CS) f = some none) (hex : PySem.W.exmOne X.K (.ref CS) (.ref CS) = some true) (hnd : [a, n].Nodup) (hln : sg.names.lookup n = some .local) (hn1 : (n == ("__debug__" : Str)) = false) (hn2 : (n == ("__classdict__" : Str)) = false)
    (hb : ∀ env : Env, attributeBase (.Name n p5) f env (eval (.Name n p5) env) = eval (.Name n p5) env) (hsw : ∀ env : Env, swapsWith (.Call (.Name a p1) [] [] p2) none p3.line env = pure false) :
    LamX.GivesTo X [a, n] x sg g cdg [.Try [.Expr (.Call (.Name a p1) [] [] p2) p3] [.ExceptHandler (some (.Name e p4)) (some n) [.Return (some (.Attribute (.Name n p5) f p6)) p7] p8] [] [] p9, .Return (some (.Constant (.str ret) j p10)) p11] a q (TTref CS f ret) := by
  intro fa c' s H Q tl act hc h
  have hgl : Gl (cxOf C8.CX0 X.prog X.w X.K X.mg X.base [a, n] x sg g cdg X.A X.stack s H C8.E0).nox e := hge
  refine ⟨_, pss_cons (ps_try_as (X := (cxOf C8.CX0 X.prog X.w X.K X.mg X.base [a, n] x sg g cdg X.A X.stack s H C8.E0).nox) (c := .ref CS) (i := 1)
      (tb := fun W D σ H => ∃ Ech : XK, (∀ cls d σ' H', σ'.length = 2 → Ech cls d H' → W cls d σ' H') ∧ σ[0]? = some (some (.ref fa)) ∧ H c' = some (LamX.CodeO c' q) ∧ tl Ech H fun _ H' => D.nx σ H')
      rfl rfl hnd rfl hln ⟨hgl, hde, .inl hme⟩ LamX.takes0 (fun W pn xe tk _ => ?_) (fun b oe cls d pn hz hf => pss_one (ps_ret (pe_xf T hno hz hf (pe_var (i := 1) rfl (.inl hln) hn1 hn2) (hb _))))) (pss_one (ps_ret pe_str)), ?_⟩
  · refine ⟨fun pins s' σ H' D I h' => ?_⟩
    obtain ⟨Ech, hW, h1, h2, h3⟩ := h'
    have hp := act _ pn xe Ech p1 p2 (takes_len (n := 2) rfl tk) fun cls d σ' H' k l => hW cls d σ' H' l k
    exact (pss_one (ps_expr hp (hsw _))).run pins s' σ H' D I ⟨h1, h2, h3⟩
  · refine ⟨fun cls d H' => cls = .ref CS ∧ ∃ dd v, d = some dd ∧ H' dd = some (.xd [(f, v)]) ∧ Q v H', fun cls d σ' H' hl hE => ?_, rfl, hc, h⟩
    obtain ⟨rfl, dd, v, rfl, hd, hq⟩ := hE
    refine ⟨true, hex, fun _ b hb' => ?_, fun z => by cases z⟩
    match σ', hl with
    | [s0, s1], _ => exact ⟨.ref b, rfl, rfl, rfl, dd, [(f, v)], v, rfl, hd, by rw [List.lookup_cons, beq_self_eq_true], hq⟩
end PB

/-! PF: lambdas handed to a def that calls them in a try; keyword calls without a positional argument. -/
namespace PB
open PySem PySem.Spec L2
open PyProof.Rows hiding St
/-- heaps: all but the tables of code stands -/
abbrev ExN (H H' : Hp) : Prop := LamX.ExtN H H'
theorem ExN.of {H H' : Hp} (e : Ex H H') : ExN H H' := fun b o h _ => e b o h
theorem ExN.refl (H : Hp) : ExN H H := fun _ _ h _ => h
theorem ExN.tr {A B C : Hp} (a : ExN A B) (b : ExN B C) : ExN A C := fun x o h n => b x o (a x o h n) n
theorem sqT_exn {K : PySem.W.Frag} {H H' : Hp} {a : Addr} {xs : List V} (e : ExN H H') (h : SqT K H a xs) : SqT K H' a xs := by
  rcases h with (h | ⟨o, h⟩) | h
  · exact .inl (.inl (e _ _ h fun _ z => by cases z))
  · exact .inl (.inr ⟨o, e _ _ h fun _ z => by cases z⟩)
  · exact .inr h
theorem sqL_exn {K : PySem.W.Frag} {H H' : Hp} {a : Addr} {xs : List V} (e : ExN H H') (h : SqL K H a xs) : SqL K H' a xs := by
  rcases h with (h | ⟨o, h⟩) | h
  · exact .inl (.inl (e _ _ h fun _ z => by cases z))
  · exact .inl (.inr ⟨o, e _ _ h fun _ z => by cases z⟩)
  · exact .inr h
/-- a def's body, its code object known -/
theorem fnL_of {P : Program} {w : World} {K : PySem.W.Frag} {mg : Str → Option Value} {base : Heap} {x : Str} {a : Arguments} {b : List Stmt} {sc : Scope} {fd : FuncData} {N ps : List Str} {k : Nat} {sp : Sp} (F : FunD K x x a b sc [] [] (He.fAd K (x, none)) fd) (S : FnScope N ps sc)
    (len : ∀ vs H Q E, sp vs H Q E → vs.length = ps.length)
    (hbody : ∀ (cdv : Value) (A : Around) (outer : List Env) (s : Shared) (H : Hp) (vs : List V) (Q : VK) (E : XK), cdv = .ref (He.codeOf K (x, none)) → (A.deeper (envOfC x sc s.heap.objs.size (He.fAd K (x, none)) cdv)).guards = some [] → Room k (A.deeper (envOfC x sc s.heap.objs.size (He.fAd K (x, none)) cdv)) → sp vs H Q E →
      ∃ t, PSs (cxOf (L2.CX P w) P w K mg base N x sc (He.fAd K (x, none)) cdv A outer s H E) b t ∧ t { nx := fun _ H' => Q .non H', rt := Q } (start N vs) H) : FnG P w K mg base (k + 1) (He.fAd K (x, none)) fd ps sp := by
  obtain ⟨oc, od, dV, kV, doc, pm, an, cdv, ct, osl, rfl, lk, hcd, _, _⟩ := F.ex
  obtain ⟨c, rfl⟩ := He.codeIn_ref hcd
  have ec : c = He.codeOf K (x, none) := (He.codeOf_eq lk rfl).symm
  exact ⟨len, fun A outer s H args us vs Q E hg hr e0 hb r h => LamX.run_ofS lk hcd S hr e0 hb r (len _ _ _ _ h) fun hr' => hbody (.ref c) A outer s H vs Q E (by rw [ec]) hg hr' h⟩
section
variable {P : Program} {w : World} {fa : List He.Fa} {fn : List He.DefD} {K : PySem.W.Frag} {mg : Str → Option Value} {base : Heap}
theorem Ct.calL (C : Ct fa fn K mg base) (i j : Nat) {x : Str} {a : Arguments} {b : List Stmt} {sc : Scope} (hd : fn[i]? = some ⟨(x, none), x, x, a, b, sc, [], []⟩) (hj : fa[j]? = some (.glo x)) {N ps : List Str} {k : Nat} {sp : Sp} (S : FnScope N ps sc)
    (hb : ∀ (kV doc pm : Value) (an : Option Addr) (cdv ct : Value) (us : List Value), us.length = ps.length → bindArgs (PySem.W.fnOf x x a b sc .none kV doc pm an cdv ct) ⟨us, []⟩ = pure (ps.zip us))
    (len : ∀ vs H Q E, sp vs H Q E → vs.length = ps.length)
    (hbody : ∀ (cdv : Value) (A : Around) (outer : List Env) (s : Shared) (H : Hp) (vs : List V) (Q : VK) (E : XK), cdv = .ref (He.codeOf K (x, none)) → (A.deeper (envOfC x sc s.heap.objs.size (He.fAd K (x, none)) cdv)).guards = some [] → Room k (A.deeper (envOfC x sc s.heap.objs.size (He.fAd K (x, none)) cdv)) → sp vs H Q E →
      ∃ t, PSs (cxOf (L2.CX P w) P w K mg base N x sc (He.fAd K (x, none)) cdv A outer s H E) b t ∧ t { nx := fun _ H' => Q .non H', rt := Q } (start N vs) H) : CalG P w K mg base (k + 1) x ps sp := by
  obtain ⟨fd, F⟩ := C.says.def_ i hd
  exact ⟨_, fd, He.glo_ok C.kin C.glob (C.says.fact j hj), F.kp, fnL_of F S len hbody, FunD.bindsN F hb⟩
end
/-- the def that calls its lambda in a try -/
def Ref (K : PySem.W.Frag) (mg : Str → Option Value) (x : Str) (C : Addr) (f ret : Str) : Prop :=
  ∃ (g : Addr) (oc : Value) (od : Option Addr) (osl : Array (Option Value)) (pg : Arguments) (bg : List Stmt) (sg : Scope) (dV kV doc pm cdv ct : Value) (an : Option Addr) (a n : Str),
    K.lookup g = some ⟨oc, od, .func (PySem.W.fnOf x x pg bg sg dV kV doc pm an cdv ct), osl⟩ ∧ PySem.W.keepIn K (.ref g) = true ∧ PySem.W.codeIn K cdv x = true ∧ mg x = some (.ref g) ∧ L2.Binds K (PySem.W.fnOf x x pg bg sg dV kV doc pm an cdv ct) [a] [] ∧
      FnScope [a, n] [a] sg ∧ sg.names.lookup a = some .local ∧ ((a == ("__debug__" : Str)) = false ∧ (a == ("__classdict__" : Str)) = false) ∧ ∀ X : Cx, X.K = K → X.mg = mg → ∀ q, LamX.GivesTo X [a, n] x sg g cdv bg a q (TTref C f ret)
theorem pe_ref {X : Cx} {T : List (Addr × Str)} {x f ret : Str} {CS c P : Addr} {k j : Nat} {params : Arguments} {body : Expr} {scope : Scope} {t : XK → TE} {p lpos pos : Pos} (R : Ref X.K X.mg x CS f ret) (TB : LamX.TabB X.base X.mg c P) (hcode : X.env.code = .ref c) (hT : T = [(P, X.env.qual ++ "<lambda>")])
    (hr : Room j X.A) (hk : k + 2 ≤ j) (L : LamX.LamS X.env.scope scope) (hdef : defaultsOf params X.env = ([], [])) (hbind : ∀ (q : Str) (cl : List (Str × Addr)) (pm cv ctv : Value), bindArgs (PySem.W.kla_fn "<lambda>" q params body scope cl pm cv ctv) ⟨[], []⟩ = pure [])
    (hbody : ∀ (A : Around) (outer : List Env) (s : Shared) (H : Hp) (E : XK) (f c' : Addr), Room k (A.deeper (LamX.lamEnv X scope s.heap.objs.size f c')) → PE (LamX.lamCx X A outer s H E scope f c') body (t E))
    (hg : Gl X x := by rfl) (hdb : (x == ("__debug__" : Str)) = false := by decide) : PE X (.Call (.Name x p) [.Lambda params body scope lpos] [] pos) (LamX.tLam T (TTref CS f ret) t) := by
  obtain ⟨g, oc, od, osl, pg, bg, sg, dV, kV, doc, pm, cdv, ct, an, a, n, lk, kp, hcg, hm, hb, Sg, hla, ⟨d1, d2⟩, G⟩ := R
  refine LamX.pe_lamcall (c := c) (P := P) hg hm kp lk hcg hb Sg rfl (.inl hla) (G X rfl rfl _) TB hcode (by rw [hT]; exact List.mem_singleton.mpr rfl) (fun q hq _ => by rw [hT] at hq; rw [List.mem_singleton.mp hq]) (hr.mono hk) L hdef hbind hbody hdb d1 d2
theorem r_ref {T : List (Addr × Str)} {CS : Addr} {f ret : Str} {t : XK → TE} {σ : St} {H : Hp} {Q : VK} (hT : LamX.Tabs T H) (h : ∀ H1, ExN H H1 → LamX.Tabs T H1 → t (fun cls d H' => cls = .ref CS ∧ ∃ dd v, d = some dd ∧ H' dd = some (.xd [(f, v)]) ∧ Q v H') σ H1 fun _ H' => Q (.str ret) H') : LamX.tLam T (TTref CS f ret) t σ H Q := ⟨hT, fun H1 e1 e2 => h H1 e1 e2⟩
/-! ### keywords only -/
/-- such a def by its keywords, in any order -/
def CalK (P : Program) (w : World) (K : PySem.W.Frag) (mg : Str → Option Value) (base : Heap) (k : Nat) (x : Str) (ks : List Str) (sp : Sp) (gV : List V → List V) : Prop :=
  ∃ f fd ps g, mg x = some (.ref f) ∧ PySem.W.keepIn K (.ref f) = true ∧ FnOk P w K mg base (L2.CX P w) k f fd ps sp ∧ KBn K fd ps 0 ks g (fun _ zs => gV zs)
theorem pe_kw0 {X : Cx} {k j : Nat} {x : Str} {ks : List Str} {sp : Sp} {gV : List V → List V} {E : XK} {p pos : Pos} {kws : List Keyword} {tk : TA} (c : CalK X.prog X.w X.K X.mg X.base k x ks sp gV) (hr : Room j X.A) (hk : k ≤ j) (hx : Passes (L2.CX X.prog X.w) X E) (hkw : PK X kws tk)
    (hg : Gl X x := by rfl) (hall : (backToKw pos (keywordEach kws X.env)).all (·.1.isSome) = true := by rfl) (hks : (backToKw pos (keywordEach kws X.env)).filterMap (·.1) = ks := by rfl) (hdb : (x == ("__debug__" : Str)) = false := by decide)
    (hpl : ((backTo pos (starEach [] X.env)).any (·.1) || (backToKw pos (keywordEach kws X.env)).any (·.1.isNone)) = false := by rfl) : PE X (.Call (.Name x p) [] kws pos) (fun σ H Q => tk σ H fun zs H1 => zs.length = ks.length ∧ sp (gV zs) H1 Q E) := by
  obtain ⟨f, fd, ps, g, h1, h2, F, b⟩ := c
  refine ⟨fun pins s σ H Q I h => wpAny_Call_Name_kw (ld_glob I hg h1 ?_ hdb)⟩
  refine PySem.W.callWith_KW0 (h₀ := X.base) I.ok.mod.kin h2 hall (thn (hkw.run pos pins s σ H _ I h) fun ws s2 ⟨zs, H2, I2, rz, l2, q2⟩ => ⟨I2.kIn, ?_⟩) hpl
  rw [hks]
  exact run_fnN F (hr.mono hk) b hx I2 .nil rz rfl l2 q2
end PB

/-! PX: isinstance of a caught exception that bears a dict; defaults; texts in lists. -/
namespace PB
open PySem PySem.Spec L2
open PyProof.Rows hiding St
section
open PySem.W PySem.Calls
variable {prog : Program} {w : World} {A : Around} {E : Value → Shared → Prop} {K : PySem.W.Frag} {x D : Addr} {ox od : Obj}
/-- e.__class__ of such an exception -/
theorem class_of_exc (T : L2.ExcC K D) {g0 : Array GenState} {d0 : Drawn} {t0 : Nat} {os0 : OsState} {hp : Heap} {Q : Option Value → Shared → Prop} (kin : K.In hp) (at_ : InstAt hp x ox D (some od)) (q : Q (some (.ref D)) ⟨hp, g0, d0, t0 + 1, os0⟩) :
    wpAny (model prog w) A (getAttr? (.ref x) "__class__") Q E ⟨hp, g0, d0, t0, os0⟩ := by
  have isC : (clsIn K D).isSome = true := by
    obtain ⟨cd, hc, _⟩ := any_some T.hd
    rw [hc]; rfl
  have fnd := looks_find (M := model prog w) kin at_ (findObj_data (od := od) isC T.ha T.hn T.ht)
  have typ := at_.type (M := model prog w)
  have gat := looks_findIn (M := model prog w) kin T.hg
  have non := looks_findIn (M := model prog w) kin T.hk
  have ins : Looks (model prog w) hp (isInstance (.ref x) (.type "BaseException")) true := typ.andThen (looks_subIn kin T.hs)
  have own : (Value.builtin "BaseException.__getattribute__" == Value.builtin "object.__getattribute__") = false := by decide +kernel
  unfold getAttr? getAttrBy? getAttrBy
  refine wpAny_bind (wpAny_mkText (wpAny_bind (wpAny_attempt (wpAny_holding (wpAny_bind (typ.at (wpAny_bind (gat.at ?_))))))))
  show wpAny _ _ (if (onTheHeap (Value.ref D) && (Value.builtin "BaseException.__getattribute__" == Value.builtin "object.__getattribute__")) = true then _ else _) _ _ _
  rw [own, Bool.and_false, if_neg Bool.false_ne_true]
  unfold getAttrByItsOwn hookBefore
  refine wpAny_bind ?_
  rw [if_pos (show onTheHeap (Value.ref D) = true from rfl)]
  refine non.at (wpAny_bind (wpAny_attempt (wpAny_holding ?_)))
  unfold callGetattribute
  rw [show (false && onTheHeap (Value.builtin "BaseException.__getattribute__")) = false from rfl, if_neg Bool.false_ne_true]
  unfold boundAndCalled
  rw [PySem.F.excAttr_ValueError.ga.bind (.ref x)]
  refine wpAny_bind (wpAny_pure ?_)
  show wpAny _ _ (call (.builtin "BaseException.__getattribute__") [.ref x, .str "__class__" t0]) _ _ _
  refine wpAny_call (codeAny_call_builtin PySem.F.excAttr_ValueError.ga.plain PySem.F.entry_bexc_ga ?_)
  refine @check_slot (model prog w) _ _ ⟨hp, g0, d0, t0 + 1, os0⟩ "BaseException.__getattribute__" "BaseException" "__getattribute__" (.ref x) [.str "__class__" t0] [] _ (by decide +kernel) (by decide +kernel) ins (PySem.F.args_bexc_ga (.ref x) (.str "__class__" t0)) ?_
  unfold Builtin.«object.__getattribute__»
  refine wpAny_bind (wpAny_of_eq (a := ((Value.ref x : Value), [Value.str "__class__" t0])) (by first | rfl | (simp only [slotArgs]; rfl)) (wpAny_bind (wpAny_pure (wpAny_bind (typ.at (wpAny_bind (fnd.at ?_)))))))
  show wpAny _ _ (holding [Value.builtin "object.__class__"] (call (.builtin "getset_descriptor.__get__") [.builtin "object.__class__", .ref x, .ref D]) >>= ret) _ _ _
  refine wpAny_bind (wpAny_holding (wpAny_call (class_get (s := ⟨hp, g0, d0, t0 + 1, os0⟩) (ox := ox) (od := some od) kin at_ T.hm (wpAny_pure ?_))))
  show wpAny _ _ (handedOut (.ref D)) _ _ _
  rw [handedOut_of (v := .ref D) rfl]
  first
    | exact wpAny_pure (wpAny_pure q)
    | exact wpAny_pure q
    | exact wpAny_pure (wpAny_bind (wpAny_pure (wpAny_pure q)))
theorem kit_exc (T : L2.ExcC K D) : KitX K (.ref x) (.ref D) (fun h => ∃ od, InstAt h x ox D (some od)) := by
  obtain ⟨cd, hc, _⟩ := any_some T.hd
  have look : ∃ c d sl, K.lookup D = some ⟨c, d, .cls cd, sl⟩ := by
    unfold clsIn at hc
    split at hc
    · rename_i c d cd' sl ho
      cases hc
      exact ⟨c, d, sl, ho⟩
    · cases hc
  obtain ⟨c, d, sl, ho⟩ := look
  refine ⟨fun _ _ _ ⟨_, I⟩ => I.type, fun _ _ X _ A' Q' E' s' k q => ?_, fun h tp dd its n sl' X htp => ?_, fun X ⟨od, I⟩ q => ?_⟩
  · unfold isType loadHead
    exact wpAny_bind (wpAny_loadPart (k _ _ (X _ _ ho)) (wpAny_pure q))
  · refine Bool.eq_false_iff.mpr fun z => ?_
    cases beq_iff_eq.mp z
    cases (X _ _ ho).symm.trans htp
  · exact class_of_exc T X I q
end
/-- isinstance(e, c), e the exception that the suite holds, its dict at d -/
def rIsX (K : PySem.W.Frag) (D a : Addr) (cls : Value) (d : Option Addr) : List V → Hp → VK → Prop := fun xs H Q => cls = .ref D ∧ ∃ (c : V) (cv : Value) (b : Bool) (dd : Addr) (fs : List (Str × V)), xs = [.ref a, c] ∧ (∀ u, RelV c u → u = cv) ∧ PySem.W.kitOne K (.ref D) cv = some b ∧ d = some dd ∧ H dd = some (.xd fs) ∧ Q (.bl b) H
theorem k_isX {X : Cx} {K : PySem.W.Frag} {a D : Addr} {cls : Value} {d : Option Addr} {oe : Obj} {pn : List (Addr × Obj)} (eK : X.K = K) (C : ExcC K D) (hz : Zc cls d oe) (hf : ∃ vs, oe.data = .fields vs) : CallR (X.suite a ((a, oe) :: pn)) (.builtin "isinstance") (rIsX K D a cls d) := by
  subst eK
  intro pins s σ H xs us Q I r h
  obtain ⟨rfl, c, cv, b, dd, fs, rfl, hcv, e, rfl, hd, q⟩ := h
  obtain ⟨u0, u1, rfl, r0, r1⟩ := vals2 r
  obtain rfl : u0 = Value.ref a := r0
  obtain rfl := hcv _ r1
  obtain ⟨hget, _⟩ := I.pin (a, oe) (List.mem_append.mpr (.inl List.mem_cons_self))
  obtain ⟨vs, hv⟩ := hf
  have hx : ObjOk X.prog X.w H s.heap dd (.xd fs) := I.hok dd _ hd
  obtain ⟨mA, hns, _⟩ := hx
  obtain ⟨od, ho, _⟩ := lookIn_ns hns
  have J : PySem.W.InstAt s.heap a oe D (some od) := ⟨hget, hz.1, by unfold PySem.W.notCls; rw [hv] <;> rfl, by rw [hz.2]; exact ho⟩
  exact PySem.W.kia_one (kit_exc C) I.kIn ⟨od, J⟩ e (fun z => nomatch z) fun tk => ⟨.bl b, H, I.kept (t' := tk) fun _ _ z => z, rfl, q⟩
def excCB (K : PySem.W.Frag) (D : Addr) : Bool := eqS (PySem.W.findIn K (.ref D) "__getattribute__") (some (some (.builtin "BaseException.__getattribute__"))) && (eqS (PySem.W.findIn K (.ref D) "__getattr__") (some none) && (decide (PySem.W.subIn K (.ref D) (.type "BaseException") = some true) &&
  (PySem.W.hasDictIn K D && (eqS (PySem.W.findIn K (.ref D) "__class__") (some (some (.builtin "object.__class__"))) && (eqS (PySem.W.specialIn K (.builtin "object.__class__") "__get__") (some (some (.builtin "getset_descriptor.__get__"))) &&
  (decide (PySem.W.takesIn K (.builtin "object.__class__") = some true) && decide (PySem.W.mroIn K D (.type "object") = some true)))))))
theorem excCB_ok {K : PySem.W.Frag} {D : Addr} (h : excCB K D = true) : ExcC K D := by
  unfold excCB at h
  simp only [Bool.and_eq_true, eqS, decide_eq_true_eq] at h
  obtain ⟨h1, h2, h3, h4, h5, h6, h7, h8⟩ := h
  exact ⟨h1, h2, h3, h4, h5, h6, h7, h8⟩
/-! ### defs with defaults -/
def CalD (P : Program) (w : World) (K : PySem.W.Frag) (mg : Str → Option Value) (base : Heap) (k : Nat) (x : Str) (ps : List Str) (dvs : List V) (sp : Sp) : Prop :=
  ∃ f fd ds, mg x = some (.ref f) ∧ PySem.W.keepIn K (.ref f) = true ∧ FnOk P w K mg base (L2.CX P w) k f fd ps sp ∧ Binds K fd ps ds ∧ Vals dvs ds
theorem pe_fD {X : Cx} {k j : Nat} {x : Str} {ps : List Str} {dvs : List V} {sp : Sp} {E : XK} {p pos : Pos} {e : Expr} {es : List Expr} {t : TA} (c : CalD X.prog X.w X.K X.mg X.base k x ps dvs sp) (hr : Room j X.A) (hk : k ≤ j) (hx : Passes (L2.CX X.prog X.w) X E) (ha : PA X (e :: es) t)
    (hg : Gl X x := by rfl) (hdb : (x == ("__debug__" : Str)) = false := by decide) (he : starEach (e :: es) X.env = (false, eval e X.env) :: starEach es X.env := by rfl) (hpl : (backTo pos (starEach es X.env)).any (·.1) = false := by rfl) :
    PE X (.Call (.Name x p) (e :: es) [] pos) (tCall sp dvs E t) := by
  obtain ⟨f, fd, ds, h1, h2, F, b, v⟩ := c
  exact pe_call F (hr.mono hk) hg h1 h2 b v hx ha hdb he hpl
theorem r_callD {sp : Sp} {dvs : List V} {E : XK} {tr : TA} {σ : St} {H : Hp} {Q : VK} (h : tr σ H fun vs H1 => sp (vs ++ dvs) H1 Q E) : tCall sp dvs E tr σ H Q := h
section
variable {P : Program} {w : World} {fa : List He.Fa} {fn : List He.DefD} {K : PySem.W.Frag} {mg : Str → Option Value} {base : Heap}
/-- a def whose keyword-only parameters have defaults, these not written -/
theorem Ct.calD (C : Ct fa fn K mg base) (i j n : Nat) {x : Str} {a : Arguments} {b : List Stmt} {sc : Scope} {kw : List (Str × He.Dv)} (hd : fn[i]? = some ⟨(x, none), x, x, a, b, sc, [], kw⟩) (hj : fa[j]? = some (.glo x)) {N ps : List Str} {k : Nat} {sp : Sp} (S : FnScope N ps sc)
    (hk : kw ≠ []) (hn : n + kw.length = ps.length)
    (hb : ∀ (D : Addr) (doc pm : Value) (an : Option Addr) (cdv ct : Value) (us ks : List Value), us.length = n → ks.length = kw.length → KwChain D ((kw.map (·.1)).zip ks) (bindArgs (PySem.W.fnOf x x a b sc .none (.ref D) doc pm an cdv ct) ⟨us, []⟩) (ps.zip (us ++ ks)))
    (len : ∀ vs H Q E, sp vs H Q E → vs.length = ps.length)
    (hbody : ∀ (f : Addr) (cdv : Value) (A : Around) (outer : List Env) (s : Shared) (H : Hp) (vs : List V) (Q : VK) (E : XK), Room k (A.deeper (envOfC x sc s.heap.objs.size f cdv)) → sp vs H Q E →
      ∃ t, PSs (cxOf (L2.CX P w) P w K mg base N x sc f cdv A outer s H E) b t ∧ t { nx := fun _ H' => Q .non H', rt := Q } (start N vs) H) : CalD P w K mg base (k + 1) x ps (kw.map fun q => q.2.v K) sp := by
  obtain ⟨fd, F⟩ := C.says.def_ i hd
  have F' : FunD K x x a b sc [] (kw.map fun q => (q.1, q.2.v K)) (He.fAd K (x, none)) fd := F
  obtain ⟨ds, v, bb⟩ := FunD.binds0 (ps := ps) F' n (fun z => hk (List.map_eq_nil_iff.mp z)) (by rw [List.length_map]; exact hn) (fun D doc pm an cdv ct us ks h1 h2 => by
    rw [List.length_map] at h2
    have := hb D doc pm an cdv ct us ks h1 h2
    rw [List.map_map]
    exact this)
  rw [List.map_map] at v
  exact ⟨_, fd, ds, He.glo_ok C.kin C.glob (C.says.fact j hj), F.kp, FunD.ok F' S len fun cdv A outer s H vs Q E hr h => hbody _ cdv A outer s H vs Q E hr h, bb, v⟩
/-- a def without defaults, by keywords alone -/
theorem Ct.calK (C : Ct fa fn K mg base) (i j : Nat) {x : Str} {a : Arguments} {b : List Stmt} {sc : Scope} (hd : fn[i]? = some ⟨(x, none), x, x, a, b, sc, [], []⟩) (hj : fa[j]? = some (.glo x)) {N ps ks : List Str} {k : Nat} {sp : Sp} {g : List Value → List Value} {gV : List V → List V} (S : FnScope N ps sc)
    (hrel : ∀ (zs : List V) (ws : List Value), Vals zs ws → Vals (gV zs) (g ws))
    (hb : ∀ (kV doc pm : Value) (an : Option Addr) (cdv ct : Value) (ws : List Value), ws.length = ks.length → bindArgs (PySem.W.fnOf x x a b sc .none kV doc pm an cdv ct) ⟨[], ks.zip ws⟩ = pure (ps.zip (g ws)))
    (len : ∀ vs H Q E, sp vs H Q E → vs.length = ps.length)
    (hbody : ∀ (f : Addr) (cdv : Value) (A : Around) (outer : List Env) (s : Shared) (H : Hp) (vs : List V) (Q : VK) (E : XK), Room k (A.deeper (envOfC x sc s.heap.objs.size f cdv)) → sp vs H Q E →
      ∃ t, PSs (cxOf (L2.CX P w) P w K mg base N x sc f cdv A outer s H E) b t ∧ t { nx := fun _ H' => Q .non H', rt := Q } (start N vs) H) : CalK P w K mg base (k + 1) x ks sp gV := by
  obtain ⟨fd, F⟩ := C.says.def_ i hd
  obtain ⟨oc, od, dV, kV, doc, pm, an, cdv, ct, osl, rfl, lk, hcd, hD, hK⟩ := F.ex
  have dn : dV = .none := by
    rcases hD with ⟨_, e⟩ | ⟨e, _⟩
    · exact e
    · exact absurd rfl e
  subst dn
  refine ⟨_, _, ps, fun _ ws => g ws, He.glo_ok C.kin C.glob (C.says.fact j hj), F.kp, FunD.ok F S len fun cdv A outer s H vs Q E hr h => hbody _ cdv A outer s H vs Q E hr h, ⟨fun s us ws _ l1 l2 => ?_, fun _ r => hrel _ _ r⟩⟩
  obtain rfl := List.length_eq_zero_iff.mp l1
  exact .of_eq (hb kV doc pm an cdv ct ws l2)
end
/-! ### calls within a try -/
theorem pe_fS {X : Cx} {W : WX} {k j : Nat} {x : Str} {ps : List Str} {sp : Sp} {p pos : Pos} {e : Expr} {es : List Expr} {t : TA} (c : Cal X.prog X.w X.K X.mg X.base k x ps sp) (hr : Room j X.A) (hk : k ≤ j) (tk : Takes X W) (ha : PA X (e :: es) t)
    (hg : Gl X x := by rfl) (hdb : (x == ("__debug__" : Str)) = false := by decide) (he : starEach (e :: es) X.env = (false, eval e X.env) :: starEach es X.env := by rfl) (hpl : (backTo pos (starEach es X.env)).any (·.1) = false := by rfl) :
    PE X (.Call (.Name x p) (e :: es) [] pos) (tCallS sp (WE W) t) := by
  obtain ⟨f, fd, h1, h2, F, b⟩ := c
  exact pe_callS F (hr.mono hk) hg h1 h2 b (fun σ => passAt tk σ) ha hdb he hpl
theorem pe_kw0S {X : Cx} {W : WX} {k j : Nat} {x : Str} {ks : List Str} {sp : Sp} {gV : List V → List V} {p pos : Pos} {kws : List Keyword} {tk : TA} (c : CalK X.prog X.w X.K X.mg X.base k x ks sp gV) (hr : Room j X.A) (hk : k ≤ j) (tw : Takes X W) (hkw : PK X kws tk)
    (hg : Gl X x := by rfl) (hall : (backToKw pos (keywordEach kws X.env)).all (·.1.isSome) = true := by rfl) (hks : (backToKw pos (keywordEach kws X.env)).filterMap (·.1) = ks := by rfl) (hdb : (x == ("__debug__" : Str)) = false := by decide)
    (hpl : ((backTo pos (starEach [] X.env)).any (·.1) || (backToKw pos (keywordEach kws X.env)).any (·.1.isNone)) = false := by rfl) : PE X (.Call (.Name x p) [] kws pos) (fun σ H Q => tk σ H fun zs H1 => zs.length = ks.length ∧ sp (gV zs) H1 Q (WE W σ)) := by
  obtain ⟨f, fd, ps, g, h1, h2, F, b⟩ := c
  refine ⟨fun pins s σ H Q I h => wpAny_Call_Name_kw (ld_glob I hg h1 ?_ hdb)⟩
  refine PySem.W.callWith_KW0 (h₀ := X.base) I.ok.mod.kin h2 hall (thn (hkw.run pos pins s σ H _ I h) fun ws s2 ⟨zs, H2, I2, rz, l2, q2⟩ => ⟨I2.kIn, ?_⟩) hpl
  rw [hks]
  have r2 := b.rel (vs := []) (us := []) .nil rz
  refine wpAny_call (codeAny_mono (F.run X.A X.stack s2 H2 ⟨[], ks.zip ws⟩ (g [] ws) (gV zs) Q (WE W σ) (hr.mono hk) I2.env0 (b.to s2 [] ws I2.kIn rfl (rz.length.symm.trans l2)) r2 q2) fun r s' hq => ?_)
  match r, hq with
  | .error er, hq => exact passAt tw σ pins H2 s2 er s' I2 hq
  | .ok (.ret u), hq => exact I2.after hq
  | .ok .next, hq => exact hq.elim
  | .ok .brk, hq => exact hq.elim
  | .ok .cont, hq => exact hq.elim
def tKw0S (n : Nat) (sp : Sp) (gV : List V → List V) (W : WX) (tk : TA) : TE := fun σ H Q => tk σ H fun zs H1 => zs.length = n ∧ sp (gV zs) H1 Q (WE W σ)
theorem r_callS {sp : Sp} {E : St → XK} {t : TA} {σ : St} {H : Hp} {Q : VK} (h : t σ H fun vs H1 => sp vs H1 Q (E σ)) : tCallS sp E t σ H Q := h
/-- a list of texts and a list of texts -/
theorem dp_S {K : PySem.W.Frag} {H : Hp} : ∀ xs : List Str, DpAll K H (xs.map V.str) (xs.map PyData.str)
  | [] => .nil
  | x :: xs => .cons (.str x) (dp_S xs)
theorem eqv_S : ∀ xs ys : List Str, PyData.eqvAll (xs.map PyData.str) (ys.map PyData.str) = decide (xs = ys)
  | [], [] => by simp only [List.map_nil, PyData.eqvAll, decide_true]
  | [], _ :: _ => by simp only [List.map_nil, List.map_cons, PyData.eqvAll]; rfl
  | _ :: _, [] => by simp only [List.map_nil, List.map_cons, PyData.eqvAll]; rfl
  | x :: xs, y :: ys => by
    have := eqv_S xs ys
    simp only [List.map_cons, PyData.eqvAll, PyData.eqv, this]
    by_cases h1 : x = y <;> by_cases h2 : xs = ys <;> simp [h1, h2]
theorem r_eqSS {K : PySem.W.Frag} {H : Hp} {a b : Addr} {xs ys : List Str} {Q : VK} (h1 : SqL K H a (xs.map V.str)) (h2 : SqL K H b (ys.map V.str)) (s1 : SeqAt.shaped (.list (xs.map .str)) = true) (s2 : SeqAt.shaped (.list (ys.map .str)) = true) (q : Q (.bl (decide (xs = ys))) H) : rEqA K (.ref a) (.ref b) H Q :=
  .inr ⟨_, _, .lst h1 (dp_S xs), .lst h2 (dp_S ys), s1, s2, by simp only [PyData.eqv, eqv_S]; exact q⟩
end PB

/-! PJ: texts compared; a search for the first. -/
namespace PB
open PySem PySem.Spec L2
open PyProof.Rows hiding St
section
variable {K : PySem.W.Frag} {H : Hp} {Q : VK} {x y : Str}
theorem dec_str : decide (V.str x = V.str y) = decide (x = y) := by
  rw [Bool.eq_iff_iff]
  simp
theorem r_eqZ (q : Q (.bl (decide (x = y))) H) : rEqA K (.str x) (.str y) H Q := .inl ⟨rfl, by rw [dec_str]; exact q⟩
theorem r_neZ (q : Q (.bl (!decide (x = y))) H) : rNeA K (.str x) (.str y) H Q := .inl ⟨rfl, by rw [dec_str]; exact q⟩
/-- is in a list or a tuple of flat things -/
theorem r_inF {v : V} {a : Addr} {xs : List V} (h : SqT K H a xs) (f1 : flatV v = true) (f2 : xs.all flatV = true) (q : Q (.bl (inV v xs)) H) : rInA K v (.ref a) H Q := .inl ⟨a, xs, rfl, .inr h, f1, f2, q⟩
theorem r_inFL {v : V} {a : Addr} {xs : List V} (h : SqL K H a xs) (f1 : flatV v = true) (f2 : xs.all flatV = true) (q : Q (.bl (inV v xs)) H) : rInA K v (.ref a) H Q := .inl ⟨a, xs, rfl, .inl h, f1, f2, q⟩
end
/-- the first of n that is found -/
def srch {α : Type} (f : Nat → Option α) : Nat → Option α
  | 0 => none
  | n + 1 => match srch f n with
    | some r => some r
    | none => f n
theorem srch_none {α : Type} {f : Nat → Option α} {n : Nat} (h : srch f n = none) (e : f n = none) : srch f (n + 1) = none := by
  show (match srch f n with | some r => some r | none => f n) = none
  rw [h]; exact e
theorem srch_more {α : Type} {f : Nat → Option α} {n : Nat} {r : α} (h : srch f n = some r) : ∀ m, n ≤ m → srch f m = some r
  | 0, hm => by
    obtain rfl : n = 0 := by omega
    exact h
  | m + 1, hm => by
    by_cases c : n = m + 1
    · rw [← c]; exact h
    · show (match srch f m with | some r => some r | none => f m) = some r
      rw [srch_more h m (by omega)]
theorem srch_some {α : Type} {f : Nat → Option α} {n m : Nat} {r : α} (h : srch f n = none) (e : f n = some r) (hm : n < m) : srch f m = some r := by
  refine srch_more (n := n + 1) ?_ m hm
  show (match srch f n with | some r => some r | none => f n) = some r
  rw [h]; exact e
end PB
namespace PB
open PySem PySem.Spec L2
open PyProof.Rows hiding St
/-- a test that answers b -/
theorem r_ifA {tt : TT} {t u : TS} {D : Ends} {σ : St} {H : Hp} (b : Bool) (h : ∀ R : Bool → Hp → Prop, R b H → tt σ H R) (q : if b = true then t D σ H else u D σ H) : tIfS tt t u D σ H := h _ q
/-- heaps: all but d and the tables stands -/
def EN (d : Addr) (H H' : Hp) : Prop := ∀ b o, b ≠ d → H b = some o → (∀ ps, o ≠ .tbl ps) → H' b = some o
theorem EN.b {d : Addr} {H H' : Hp} (e : ExB d H H') : EN d H H' := fun b o n h _ => e b o n h
theorem EN.n {d : Addr} {H H' : Hp} (e : ExN H H') : EN d H H' := fun b o _ h t => e b o h t
theorem EN.e {d : Addr} {H H' : Hp} (e : Ex H H') : EN d H H' := fun b o _ h _ => e b o h
theorem EN.tr {d : Addr} {H1 H2 H3 : Hp} (a : EN d H1 H2) (b : EN d H2 H3) : EN d H1 H3 := fun x o n h t => b x o n (a x o n h t) t
theorem tabs_exb {T : List (Addr × Str)} {d : Addr} {xs : List V} {H H' : Hp} (e : ExB d H H') (hd : H d = some (.lst xs)) (t : LamX.Tabs T H) : LamX.Tabs T H' := fun p hp => by
  obtain ⟨ps, h1, h2, h3⟩ := t p hp
  refine ⟨ps, e _ _ (fun z => by rw [z, hd] at h1; cases h1) h1, h2, fun pos cv hc => ?_⟩
  obtain ⟨c, e1, e2⟩ := h3 pos cv hc
  exact ⟨c, e1, e _ _ (fun z => by rw [z, hd] at e2; cases e2) e2⟩
theorem Dice.tabs {T : List (Addr × Str)} {n : Nat} {d : Addr} {H H' : Hp} (h : Dice n H d) (e : ExB d H H') (t : LamX.Tabs T H) : LamX.Tabs T H' := by
  obtain ⟨x, y, z, h, _⟩ := h
  exact tabs_exb e h t
theorem sqL_en {K : PySem.W.Frag} {H H' : Hp} {a d : Addr} {xs : List V} {n : Nat} (e : EN d H H') (hn : a ≠ d) (h : SqL K H a xs) : SqL K H' a xs := by
  rcases h with (h | ⟨o, h⟩) | h
  · exact .inl (.inl (e _ _ hn h fun _ z => by cases z))
  · exact .inl (.inr ⟨o, e _ _ hn h fun _ z => by cases z⟩)
  · exact .inr h
/-- an int tuple's repr -/
theorem r_reprT {K : PySem.W.Frag} {H : Hp} {a : Addr} {ns : List Int} {Q : VK} (h : SqT K H a (ns.map V.int)) (s1 : (PyData.tuple (dI ns)).showable = true) (s2 : (PyData.tuple (dI ns)).hasDict = false) (s3 : (PyData.tuple (dI ns)).shown.length ≤ sizeLine) (s4 : (PyData.tuple (dI ns)).depth ≤ 60) (q : Q (.str (PyData.tuple (dI ns)).shown) H) : rRepr K [.ref a] H Q :=
  ⟨a, _, rfl, dp_t h, s1, s2, s3, s4, q⟩
theorem r_xf {a C : Addr} {cls : Value} {d : Option Addr} {f : Str} {te : TE} {σ : St} {H : Hp} {Q : VK} (h : te σ H fun x H1 => x = .ref a ∧ cls = .ref C ∧ ∃ (dd : Addr) (fs : List (Str × V)) (v : V), d = some dd ∧ H1 dd = some (.xd fs) ∧ fs.lookup f = some v ∧ Q v H1) : tXf a cls d C f te σ H Q := h
theorem sqL_fresh_en {K : PySem.W.Frag} {H H1 H' : Hp} {a d : Addr} {xs : List V} (f : H d = none) (e1 : Ex H H1) (e : EN d H1 H') (h : SqL K H a xs) : SqL K H' a xs := by
  have ne : ∀ {o : HO}, H a = some o → a ≠ d := fun h z => by rw [z, f] at h; cases h
  rcases h with (h | ⟨o, h⟩) | h
  · exact .inl (.inl (e _ _ (ne h) (e1 _ _ h) fun _ z => by cases z))
  · exact .inl (.inr ⟨o, e _ _ (ne h) (e1 _ _ h) fun _ z => by cases z⟩)
  · exact .inr h
end PB

/-! PY: zip whose tuples go to a name: the last one may still be there, or not. -/
namespace PB
open PySem PySem.Spec L2
open PyProof.Rows hiding St
abbrev ZipO (h : Heap) (z TI TO : Addr) (f0 f1 : Value) : Prop :=
  h.get? z = some { cls := .type "zip", dict := none, data := .fields #[f0, f1, .bool false, .ref TI, .ref TO], slots := #[] }
/-- what the zip knows of its last tuple -/
def Last (f0 f1 : Value) : Prop := f0 = .none ∨ ∃ (T : Nat) (f : Bool), f0 = rawInt T ∧ f1 = .bool f
def ZipG (h : Heap) (z TI TO : Addr) : Prop := ∃ f0 f1, ZipO h z TI TO f0 f1 ∧ Last f0 f1
section
variable {prog : Program} {w : World} {A : Around} {E : Value → Shared → Prop} {s : Shared} {z TI TO i1 i2 : Addr} {fp1 fp2 : List Addr} {n1 n2 i : Nat} {P1 P2 : Nat → Value → Prop} {St1 St2 : Nat → Heap → Prop} {a1 a2 f0 f1 : Value}
theorem lookAlive {a : Addr} {Q : Option Obj → Shared → Prop} (h : Q (s.heap.get? a) s) : wpAny (model prog w) A (loadIfAlive a) Q E s := fun _ _ _ => h
theorem zip_asks {Q : Bool → Shared → Prop} (hz : ZipO s.heap z TI TO f0 f1) (hl : Last f0 f1) (h : ∀ b h' f1', ZipO h' z TI TO f0 f1' → Last f0 f1' → Heap.SameBut z s.heap h' → Q b { s with heap := h' }) :
    wpAny (model prog w) A (Builtin.SmallTypes.ownedTupleIsFree (.ref z)) Q E s := by
  unfold Builtin.SmallTypes.ownedTupleIsFree
  rcases hl with rfl | ⟨T, f, rfl, rfl⟩
  · exact wpAny_bind (wpAny_field hz rfl (x := .none) rfl (wpAny_pure (h true s.heap f1 hz (.inl rfl) (Heap.SameBut.refl _ _))))
  · refine wpAny_bind (wpAny_field hz rfl (x := rawInt T) rfl ?_)
    show wpAny _ _ (loadIfAlive ((T : Int).toNat) >>= _) _ _ _
    refine wpAny_bind (lookAlive ?_)
    cases hT : s.heap.get? ((T : Int).toNat) with
    | none =>
      simp only [Option.isNone_none, if_true]
      exact wpAny_pure (h true s.heap _ hz (.inr ⟨T, f, rfl, rfl⟩) (Heap.SameBut.refl _ _))
    | some o =>
      simp only [Option.isNone_some, Bool.false_eq_true, if_false]
      refine wpAny_bind (wpAny_field hz rfl (x := .bool f) rfl ?_)
      cases f with
      | true =>
        rw [if_neg (show ¬ ((Value.bool true != Value.bool true) = true) from Bool.false_ne_true)]
        exact wpAny_pure (h false s.heap _ hz (.inr ⟨T, _, rfl, rfl⟩) (Heap.SameBut.refl _ _))
      | false =>
        rw [if_pos (show (Value.bool false != Value.bool true) = true from rfl)]
        exact wpAny_bind (wpAny_setField_rec hz (by simp) fun h₁ hz₁ hs₁ => wpAny_pure (h false h₁ _ hz₁ (.inr ⟨T, _, rfl, rfl⟩) hs₁))
theorem ZipG.of {h : Heap} (hz : ZipO h z TI TO f0 f1) (l : Last f0 f1) : ZipG h z TI TO := ⟨f0, f1, hz, l⟩
theorem updTup {T : Addr} {x : Value} {k : Nat} {Q : Unit → Shared → Prop} (hT : IsTupOf2 s.heap T a1 a2)
    (h : ∀ h', h'.get? T = some { cls := .type "tuple", data := .seq ((#[a1, a2] : Array Value).setIfInBounds k x) } → Heap.SameBut T s.heap h' → Q () { s with heap := h' }) :
    wpAny (model prog w) A (updateSeq T (·.setIfInBounds k x)) Q E s := updateSeq_IsTupOf2 hT h
/-- the next pair, whatever became of the last one -/
theorem zipG_item {Q : Value → Shared → Prop} (S : ZipSep2 z TI TO i1 i2 fp1 fp2) (D1 : Draws prog w A i1 fp1 n1 P1 St1) (D2 : Draws prog w A i2 fp2 n2 P2 St2)
    (hz : ZipG s.heap z TI TO) (hTI : IsTupOf2 s.heap TI (.ref i1) (.ref i2)) (hTO : ∃ a1 a2, IsTupOf2 s.heap TO a1 a2) (st1 : St1 i s.heap) (st2 : St2 i s.heap) (hlt1 : i < n1) (hlt2 : i < n2)
    (hQ : ∀ x1 x2 h' tk, P1 i x1 → P2 i x2 → ZipG h' z TI TO → (∃ a1 a2, IsTupOf2 h' TO a1 a2) → St1 (i + 1) h' → St2 (i + 1) h' → IsTupOf2 h' s.heap.objs.size x1 x2 →
      (∀ c o, c ≠ z → c ≠ TO → c ≠ i1 → c ≠ i2 → s.heap.get? c = some o → h'.get? c = some o) → Q (.ref s.heap.objs.size) { s with heap := h', toks := tk }) :
    wpAny (model prog w) A (Builtin.«zip.__next__» ⟨[.ref z], []⟩) (fun fin s' => ∃ v, fin = .done (.ret v) ∧ Q v s') E s := by
  obtain ⟨f0, f1, hz, hl⟩ := hz
  obtain ⟨a1, a2, hTO⟩ := hTO
  obtain ⟨hp, g, d, tk0, os⟩ := s
  show wpAny _ _ (field (.ref z) 2 >>= _) _ _ _
  refine wpAny_bind (wpAny_field hz rfl (x := .bool false) rfl ?_)
  show wpAny _ _ (field (.ref z) 3 >>= _) _ _ _
  refine wpAny_bind (wpAny_field hz rfl (x := .ref TI) rfl ?_)
  refine wpAny_bind (wpAny_seqItems hTI rfl ?_)
  show wpAny _ _ (Builtin.SmallTypes.ownedTupleIsFree (.ref z) >>= _) _ _ _
  refine wpAny_bind (zip_asks hz hl fun b q f1' hzq hlq hsq => ?_)
  replace hsq : Heap.SameBut z hp q := hsq
  have hTOq : IsTupOf2 q TO a1 a2 := hsq.extBut _ _ S.TOz hTO
  have s1q : St1 i q := D1.over st1 hsq S.zf1
  have s2q : St2 i q := D2.over st2 hsq S.zf2
  have szq : q.objs.size = hp.objs.size := hsq.1
  cases b with
  | true =>
    simp only [if_true]
    refine wpAny_bind (wpAny_rule ?_)
    refine wpAny_bind (wpAny_field (s := ⟨q, g, d, tk0, os⟩) hzq rfl (x := .ref TO) rfl ?_)
    refine wpAny_bind (wpAny_setField_rec (s := ⟨q, g, d, tk0, os⟩) hzq (by simp) fun g0 hz0 hs0 => ?_)
    replace hz0 : ZipO g0 z TI TO .ellipsis f1' := hz0
    replace hs0 : Heap.SameBut z q g0 := hs0
    refine wpAny_bind ?_
    simp only [List.zipIdx_cons, List.zipIdx_nil, List.forIn_cons, List.forIn_nil]
    refine wpAny_bind (wpAny_bind (wpAny_onRaise ?_))
    show wpAny _ _ (Builtin.SmallTypes.nextOf (.ref i1) >>= _) _ _ ⟨g0, g, d, tk0, os⟩
    refine wpAny_bind (D1.item i _ _ _ hlt1 (D1.over s1q hs0 S.zf1) fun x1 p1 tk1 hx1 sn1 hp1 => wpAny_pure ?_)
    replace hp1 : Heap.SameBut i1 g0 p1 := hp1
    have hU1 : IsTupOf2 p1 TO a1 a2 := hp1.extBut _ _ S.Ti1 (hs0.extBut _ _ S.TOz hTOq)
    refine wpAny_bind (wpAny_seqItems (s := ⟨p1, g, d, tk1, os⟩) hU1 rfl ?_)
    refine wpAny_bind (updTup (s := ⟨p1, g, d, tk1, os⟩) hU1 fun g1 hT1 hs1 => ?_)
    replace hT1 : IsTupOf2 g1 TO x1 a2 := hT1
    replace hs1 : Heap.SameBut TO p1 g1 := hs1
    refine wpAny_bind (wpAny_letGo (wpAny_pure ?_))
    refine wpAny_bind (wpAny_bind (wpAny_onRaise ?_))
    show wpAny _ _ (Builtin.SmallTypes.nextOf (.ref i2) >>= _) _ _ ⟨g1, g, d, tk1, os⟩
    refine wpAny_bind (D2.item i _ _ _ hlt2 (D2.over (D2.over (D2.over s2q hs0 S.zf2) hp1 S.sep1_2) hs1 S.Tf2) fun x2 p2 tk2 hx2 sn2 hp2 => wpAny_pure ?_)
    replace hp2 : Heap.SameBut i2 g1 p2 := hp2
    have hU2 : IsTupOf2 p2 TO x1 a2 := hp2.extBut _ _ S.Ti2 hT1
    refine wpAny_bind (wpAny_seqItems (s := ⟨p2, g, d, tk2, os⟩) hU2 rfl ?_)
    refine wpAny_bind (updTup (s := ⟨p2, g, d, tk2, os⟩) hU2 fun g2 hT2 hs2 => ?_)
    replace hT2 : IsTupOf2 g2 TO x1 x2 := hT2
    replace hs2 : Heap.SameBut TO p2 g2 := hs2
    refine wpAny_bind (wpAny_letGo (wpAny_pure (wpAny_pure ?_)))
    refine wpAny_bind (wpAny_seqItems (s := ⟨g2, g, d, tk2, os⟩) hT2 rfl ?_)
    refine wpAny_bind (wpAny_newTuple ?_)
    have hsz : g2.objs.size = hp.objs.size := by rw [hs2.1, hp2.1, hs1.1, hp1.1, hs0.1, szq]
    have hzz : ZipO g2 z TI TO .ellipsis f1' := (hs2.extBut _ _ S.TOz.symm (hp2.extBut _ _ S.zi2 (hs1.extBut _ _ S.TOz.symm (hp1.extBut _ _ S.zi1 hz0))))
    have hkk : ∀ c o, c ≠ z → c ≠ TO → c ≠ i1 → c ≠ i2 → hp.get? c = some o → g2.get? c = some o := fun c o cz cT c1 c2 e =>
      (hs2.extBut _ _ cT (hp2.extBut _ _ c2 (hs1.extBut _ _ cT (hp1.extBut _ _ c1 (hs0.extBut _ _ cz (hsq.extBut _ _ cz e))))))
    have hj1 : St1 (i + 1) g2 := (D1.over (D1.over (D1.over sn1 hs1 S.Tf1) hp2 S.sep2_1) hs2 S.Tf1)
    have hj2 : St2 (i + 1) g2 := (D2.over sn2 hs2 S.Tf2)
    have hzlt : z < g2.objs.size := Heap.lt_size hzz
    show wpAny _ _ (Builtin.SmallTypes.ownedTupleHandOut (.ref z) (.ref g2.objs.size) >>= _) _ _ ⟨g2.push { cls := .type "tuple", data := .seq #[x1, x2] }, g, d, tk2, os⟩
    refine wpAny_bind ?_
    unfold Builtin.SmallTypes.ownedTupleHandOut
    have hz₆ : ZipO (g2.push { cls := .type "tuple", data := .seq #[x1, x2] }) z TI TO .ellipsis f1' := Heap.get?_push_of_some _ hzz
    refine wpAny_bind (wpAny_setField_rec hz₆ (by simp) fun h₇ hz₇ hs₇ => ?_)
    replace hz₇ : ZipO h₇ z TI TO (rawInt g2.objs.size) f1' := hz₇
    refine wpAny_setField_rec hz₇ (by simp) fun h₈ hz₈ hs₈ => ?_
    replace hz₈ : ZipO h₈ z TI TO (rawInt g2.objs.size) (.bool false) := hz₈
    replace hs₇ : Heap.SameBut z (g2.push { cls := .type "tuple", data := .seq #[x1, x2] }) h₇ := hs₇
    replace hs₈ : Heap.SameBut z h₇ h₈ := hs₈
    have up : ∀ c o, c ≠ z → g2.get? c = some o → h₈.get? c = some o := fun c o c1 e => hs₈.extBut _ _ c1 (hs₇.extBut _ _ c1 (Heap.get?_push_of_some _ e))
    have hT₈ : IsTupOf2 h₈ g2.objs.size x1 x2 := hs₈.extBut _ _ (Nat.ne_of_gt hzlt) (hs₇.extBut _ _ (Nat.ne_of_gt hzlt) (Heap.get?_push_size _ rfl))
    refine wpAny_pure ⟨_, rfl, ?_⟩
    show Q (.ref g2.objs.size) ⟨h₈, g, d, tk2, os⟩
    rw [hsz] at hT₈ ⊢
    exact hQ x1 x2 h₈ tk2 hx1 hx2 (.of hz₈ (.inr ⟨_, _, rfl, rfl⟩)) ⟨_, _, up _ _ S.TOz hT2⟩ (D1.frame _ _ _ hj1 fun b hb o e => up b o (fun q => S.zf1 (q ▸ hb)) e) (D2.frame _ _ _ hj2 fun b hb o e => up b o (fun q => S.zf2 (q ▸ hb)) e) hT₈ fun c o cz cT c1 c2 e => up c o cz (hkk c o cz cT c1 c2 e)
  | false =>
    simp only [Bool.false_eq_true, if_false]
    refine wpAny_bind ?_
    rw [← Array.forIn_toList]
    simp only [List.forIn_cons, List.forIn_nil]
    refine wpAny_bind (wpAny_bind (wpAny_holding ?_))
    show wpAny _ _ (Builtin.SmallTypes.nextOf (.ref i1) >>= _) _ _ ⟨q, g, d, tk0, os⟩
    refine wpAny_bind (D1.item i _ _ _ hlt1 s1q fun x1 p1 tk1 hx1 sn1 hp1 => wpAny_pure ?_)
    replace hp1 : Heap.SameBut i1 q p1 := hp1
    refine wpAny_pure ?_
    refine wpAny_bind (wpAny_bind (wpAny_holding ?_))
    show wpAny _ _ (Builtin.SmallTypes.nextOf (.ref i2) >>= _) _ _ ⟨p1, g, d, tk1, os⟩
    refine wpAny_bind (D2.item i _ _ _ hlt2 (D2.over s2q hp1 S.sep1_2) fun x2 p2 tk2 hx2 sn2 hp2 => wpAny_pure ?_)
    replace hp2 : Heap.SameBut i2 p1 p2 := hp2
    refine wpAny_pure (wpAny_pure ?_)
    show wpAny _ _ (newTuple [x1, x2] >>= _) _ _ ⟨p2, g, d, tk2, os⟩
    refine wpAny_bind (wpAny_newTuple ?_)
    have hsz : p2.objs.size = hp.objs.size := by rw [hp2.1, hp1.1, szq]
    have hzz : ZipO p2 z TI TO f0 f1' := hp2.extBut _ _ S.zi2 (hp1.extBut _ _ S.zi1 hzq)
    have hTT : IsTupOf2 p2 TO a1 a2 := hp2.extBut _ _ S.Ti2 (hp1.extBut _ _ S.Ti1 hTOq)
    have hkk : ∀ c o, c ≠ z → c ≠ TO → c ≠ i1 → c ≠ i2 → hp.get? c = some o → p2.get? c = some o := fun c o cz cT c1 c2 e =>
      hp2.extBut _ _ c2 (hp1.extBut _ _ c1 (hsq.extBut _ _ cz e))
    have hj1 : St1 (i + 1) p2 := D1.over sn1 hp2 S.sep2_1
    have up : ∀ c o, p2.get? c = some o → (p2.push { cls := .type "tuple", data := .seq #[x1, x2] }).get? c = some o := fun c o e => Heap.get?_push_of_some _ e
    have hT₈ : IsTupOf2 (p2.push { cls := .type "tuple", data := .seq #[x1, x2] }) p2.objs.size x1 x2 := Heap.get?_push_size _ rfl
    refine wpAny_pure ⟨_, rfl, ?_⟩
    show Q (.ref p2.objs.size) ⟨p2.push { cls := .type "tuple", data := .seq #[x1, x2] }, g, d, tk2, os⟩
    rw [hsz] at hT₈ ⊢
    exact hQ x1 x2 _ tk2 hx1 hx2 (.of (up _ _ hzz) hlq) ⟨_, _, up _ _ hTT⟩ (D1.frame _ _ _ hj1 fun b hb o e => up b o e) (D2.frame _ _ _ sn2 fun b hb o e => up b o e) hT₈ fun c o cz cT c1 c2 e => up c o (hkk c o cz cT c1 c2 e)
theorem zipG_end {Q : Fin → Shared → Prop} (S : ZipSep2 z TI TO i1 i2 fp1 fp2) (D1 : Draws prog w A i1 fp1 n1 P1 St1) (D2 : Draws prog w A i2 fp2 n2 P2 St2)
    (hz : ZipG s.heap z TI TO) (hTI : IsTupOf2 s.heap TI (.ref i1) (.ref i2)) (hTO : ∃ a1 a2, IsTupOf2 s.heap TO a1 a2) (st1 : St1 i s.heap) (st2 : St2 i s.heap) (hle1 : i ≤ n1) (hle2 : i ≤ n2) (hend : i = n1 ∨ i = n2)
    (hE : ∀ h' tk e, (∀ c o, c ≠ z → c ≠ TO → c ≠ i1 → c ≠ i2 → s.heap.get? c = some o → h'.get? c = some o) → (∃ o, h'.get? e = some o ∧ o.cls = .type "StopIteration") → E (.ref e) { s with heap := h', toks := tk }) :
    wpAny (model prog w) A (Builtin.«zip.__next__» ⟨[.ref z], []⟩) Q E s := by
  obtain ⟨f0, f1, hz, hl⟩ := hz
  obtain ⟨a1, a2, hTO⟩ := hTO
  obtain ⟨hp, g, d, tk0, os⟩ := s
  show wpAny _ _ (field (.ref z) 2 >>= _) _ _ _
  refine wpAny_bind (wpAny_field hz rfl (x := .bool false) rfl ?_)
  show wpAny _ _ (field (.ref z) 3 >>= _) _ _ _
  refine wpAny_bind (wpAny_field hz rfl (x := .ref TI) rfl ?_)
  refine wpAny_bind (wpAny_seqItems hTI rfl ?_)
  show wpAny _ _ (Builtin.SmallTypes.ownedTupleIsFree (.ref z) >>= _) _ _ _
  refine wpAny_bind (zip_asks hz hl fun b q f1' hzq hlq hsq => ?_)
  replace hsq : Heap.SameBut z hp q := hsq
  have hTOq : IsTupOf2 q TO a1 a2 := hsq.extBut _ _ S.TOz hTO
  have s1q : St1 i q := D1.over st1 hsq S.zf1
  have s2q : St2 i q := D2.over st2 hsq S.zf2
  cases b with
  | true =>
    simp only [if_true]
    refine wpAny_bind (wpAny_rule ?_)
    refine wpAny_bind (wpAny_field (s := ⟨q, g, d, tk0, os⟩) hzq rfl (x := .ref TO) rfl ?_)
    refine wpAny_bind (wpAny_setField_rec (s := ⟨q, g, d, tk0, os⟩) hzq (by simp) fun g0 hz0 hs0 => ?_)
    replace hz0 : ZipO g0 z TI TO .ellipsis f1' := hz0
    replace hs0 : Heap.SameBut z q g0 := hs0
    refine wpAny_bind ?_
    simp only [List.zipIdx_cons, List.zipIdx_nil, List.forIn_cons, List.forIn_nil]
    refine wpAny_bind (wpAny_bind (wpAny_onRaise ?_))
    show wpAny _ _ (Builtin.SmallTypes.nextOf (.ref i1) >>= _) _ _ ⟨g0, g, d, tk0, os⟩
    by_cases hlt1 : i < n1
    · refine wpAny_bind (D1.item i _ _ _ hlt1 (D1.over s1q hs0 S.zf1) fun x1 p1 tk1 hx1 sn1 hp1 => wpAny_pure ?_)
      replace hp1 : Heap.SameBut i1 g0 p1 := hp1
      have hU1 : IsTupOf2 p1 TO a1 a2 := hp1.extBut _ _ S.Ti1 (hs0.extBut _ _ S.TOz hTOq)
      refine wpAny_bind (wpAny_seqItems (s := ⟨p1, g, d, tk1, os⟩) hU1 rfl ?_)
      refine wpAny_bind (updTup (s := ⟨p1, g, d, tk1, os⟩) hU1 fun g1 hT1 hs1 => ?_)
      replace hs1 : Heap.SameBut TO p1 g1 := hs1
      refine wpAny_bind (wpAny_letGo (wpAny_pure ?_))
      have hi2 : i = n2 := by omega
      refine wpAny_bind (wpAny_bind (wpAny_onRaise ?_))
      show wpAny _ _ (Builtin.SmallTypes.nextOf (.ref i2) >>= _) _ _ ⟨g1, g, d, tk1, os⟩
      refine wpAny_bind (D2.done ⟨g1, g, d, tk1, os⟩ _ _ (by rw [← hi2]; exact (D2.over (D2.over (D2.over s2q hs0 S.zf2) hp1 S.sep1_2) hs1 S.Tf2)) fun r e hq he => ?_)
      replace hq : Heap.ExtBut i2 g1 r := hq
      obtain ⟨oe, hoe, hce⟩ := he
      replace hoe : r.get? e = some oe := hoe
      have hzr : ZipO r z TI TO .ellipsis f1' := hq _ _ S.zi2 (hs1.extBut _ _ S.TOz.symm (hp1.extBut _ _ S.zi1 hz0))
      have hez : e ≠ z := fun x => by subst x; rw [hzr] at hoe; cases hoe; simp at hce
      refine wpAny_setField_rec (s := ⟨r, g, d, tk1, os⟩) hzr (by simp) fun q' _ hq' => ?_
      replace hq' : Heap.SameBut z r q' := hq'
      exact hE q' tk1 e (fun c o cz cT c1 c2 x => hq'.extBut _ _ cz (hq _ _ c2 (hs1.extBut _ _ cT (hp1.extBut _ _ c1 (hs0.extBut _ _ cz (hsq.extBut _ _ cz x)))))) ⟨oe, hq'.extBut _ _ hez hoe, hce⟩
    · have hi1 : i = n1 := by omega
      refine wpAny_bind (D1.done ⟨g0, g, d, tk0, os⟩ _ _ (by rw [← hi1]; exact (D1.over s1q hs0 S.zf1)) fun r e hq he => ?_)
      replace hq : Heap.ExtBut i1 g0 r := hq
      obtain ⟨oe, hoe, hce⟩ := he
      replace hoe : r.get? e = some oe := hoe
      have hzr : ZipO r z TI TO .ellipsis f1' := hq _ _ S.zi1 hz0
      have hez : e ≠ z := fun x => by subst x; rw [hzr] at hoe; cases hoe; simp at hce
      refine wpAny_setField_rec (s := ⟨r, g, d, tk0, os⟩) hzr (by simp) fun q' _ hq' => ?_
      replace hq' : Heap.SameBut z r q' := hq'
      exact hE q' tk0 e (fun c o cz cT c1 c2 x => hq'.extBut _ _ cz (hq _ _ c1 (hs0.extBut _ _ cz (hsq.extBut _ _ cz x)))) ⟨oe, hq'.extBut _ _ hez hoe, hce⟩
  | false =>
    simp only [Bool.false_eq_true, if_false]
    refine wpAny_bind ?_
    rw [← Array.forIn_toList]
    simp only [List.forIn_cons, List.forIn_nil]
    refine wpAny_bind (wpAny_bind (wpAny_holding ?_))
    show wpAny _ _ (Builtin.SmallTypes.nextOf (.ref i1) >>= _) _ _ ⟨q, g, d, tk0, os⟩
    by_cases hlt1 : i < n1
    · refine wpAny_bind (D1.item i _ _ _ hlt1 s1q fun x1 p1 tk1 hx1 sn1 hp1 => wpAny_pure ?_)
      replace hp1 : Heap.SameBut i1 q p1 := hp1
      refine wpAny_pure ?_
      have hi2 : i = n2 := by omega
      refine wpAny_bind (wpAny_bind (wpAny_holding ?_))
      show wpAny _ _ (Builtin.SmallTypes.nextOf (.ref i2) >>= _) _ _ ⟨p1, g, d, tk1, os⟩
      refine wpAny_bind (D2.done ⟨p1, g, d, tk1, os⟩ _ _ (by rw [← hi2]; exact D2.over s2q hp1 S.sep1_2) fun r e hq he => ?_)
      replace hq : Heap.ExtBut i2 p1 r := hq
      exact hE r tk1 e (fun c o cz cT c1 c2 x => hq _ _ c2 (hp1.extBut _ _ c1 (hsq.extBut _ _ cz x))) he
    · have hi1 : i = n1 := by omega
      refine wpAny_bind (D1.done ⟨q, g, d, tk0, os⟩ _ _ (by rw [← hi1]; exact s1q) fun r e hq he => ?_)
      replace hq : Heap.ExtBut i1 q r := hq
      exact hE r tk0 e (fun c o cz cT c1 c2 x => hq _ _ c1 (hsq.extBut _ _ cz x)) he
theorem zipG_next_item {Q : Option Value → Shared → Prop} (S : ZipSep2 z TI TO i1 i2 fp1 fp2) (D1 : Draws prog w A.in1 i1 fp1 n1 P1 St1) (D2 : Draws prog w A.in1 i2 fp2 n2 P2 St2)
    (hz : ZipG s.heap z TI TO) (hTI : IsTupOf2 s.heap TI (.ref i1) (.ref i2)) (hTO : ∃ a1 a2, IsTupOf2 s.heap TO a1 a2) (st1 : St1 i s.heap) (st2 : St2 i s.heap) (hlt1 : i < n1) (hlt2 : i < n2)
    (hQ : ∀ x1 x2 h' tk, P1 i x1 → P2 i x2 → ZipG h' z TI TO → (∃ a1 a2, IsTupOf2 h' TO a1 a2) → St1 (i + 1) h' → St2 (i + 1) h' → IsTupOf2 h' s.heap.objs.size x1 x2 →
      (∀ c o, c ≠ z → c ≠ TO → c ≠ i1 → c ≠ i2 → s.heap.get? c = some o → h'.get? c = some o) → Q (some (.ref s.heap.objs.size)) { s with heap := h', toks := tk }) :
    wpAny (model prog w) A (pyNext (.ref z)) Q E s := by
  have hT : s.TypeIs (.ref z) "zip" := by obtain ⟨_, _, hz, _⟩ := hz; exact ⟨_, hz, rfl⟩
  unfold pyNext
  exact wpAny_bind (wpAny_attempt (wpAny_callSpecial?_slot (name := Str.ofString "__next__") hT F.slot_zip_next
    (wpAny_call_entry F.slot_zip_next hT F.entry_zip_next
      (zipG_item S D1 D2 hz hTI hTO st1 st2 hlt1 hlt2 fun x1 x2 h' tk y1 y2 b1 b2 d1 d2 b5 b7 => wpAny_pure (hQ x1 x2 h' tk y1 y2 b1 b2 d1 d2 b5 b7)) (F.args_zip_next_1 _))))
theorem zipG_next_end {Q : Option Value → Shared → Prop} (S : ZipSep2 z TI TO i1 i2 fp1 fp2) (D1 : Draws prog w A.in1 i1 fp1 n1 P1 St1) (D2 : Draws prog w A.in1 i2 fp2 n2 P2 St2)
    (hz : ZipG s.heap z TI TO) (hTI : IsTupOf2 s.heap TI (.ref i1) (.ref i2)) (hTO : ∃ a1 a2, IsTupOf2 s.heap TO a1 a2) (st1 : St1 i s.heap) (st2 : St2 i s.heap) (hle1 : i ≤ n1) (hle2 : i ≤ n2) (hend : i = n1 ∨ i = n2)
    (hQ : ∀ h' tk, (∀ c o, c ≠ z → c ≠ TO → c ≠ i1 → c ≠ i2 → s.heap.get? c = some o → h'.get? c = some o) → Q none { s with heap := h', toks := tk }) : wpAny (model prog w) A (pyNext (.ref z)) Q E s := by
  have hT : s.TypeIs (.ref z) "zip" := by obtain ⟨_, _, hz, _⟩ := hz; exact ⟨_, hz, rfl⟩
  unfold pyNext
  refine wpAny_bind (wpAny_attempt (wpAny_callSpecial?_slot (name := Str.ofString "__next__") hT F.slot_zip_next
    (wpAny_call_entry F.slot_zip_next hT F.entry_zip_next (zipG_end S D1 D2 hz hTI hTO st1 st2 hle1 hle2 hend fun h' tk e hk he => ?_) (F.args_zip_next_1 _))))
  obtain ⟨o, ho, hc⟩ := he
  refine wpAny_bind (wpAny_isInstance (T := "StopIteration") (b := true) ⟨o, ho, hc⟩ isSubtype_stop ?_)
  exact wpAny_pure (hQ _ _ hk)
end
/-- a target that does not unpack -/
def Whole (tg : Expr) : Prop := ∀ it v, letOwnedTupleGo tg it v = pure ()
theorem whole_name {x : Str} {p : Pos} : Whole (.Name x p) := fun _ _ => rfl
theorem turn_whole {P : Program} {w : World} {K : PySem.W.Frag} {tg : Expr} {k1 k2 : Sk} {a b z TI TO i1 i2 : Addr} (wh : Whole tg) (S : ZipSep2 z TI TO i1 i2 [i1, a] [i2, b]) (n1 : a ≠ i1) (n2 : b ≠ i2) :
    Turn P w K tg (ItP K k1 k2 a b) [z, TI, TO, i1, i2] z (fun i h => ZipG h z TI TO ∧ IsTupOf2 h TI (.ref i1) (.ref i2) ∧ (∃ x y, IsTupOf2 h TO x y) ∧ k1.iter h i1 a i ∧ k2.iter h i2 b i) where
  mem := by simp
  obj := fun i h st c hc => by
    obtain ⟨⟨_, _, hz, _⟩, hTI, ⟨x, y, hTO⟩, h1, h2⟩ := st
    simp only [List.mem_cons, List.not_mem_nil, or_false] at hc
    rcases hc with q | q | q | q | q <;> subst q
    · exact ⟨_, hz, fun v q => nomatch q⟩
    · exact ⟨_, hTI, fun v q => nomatch q⟩
    · exact ⟨_, hTO, fun v q => nomatch q⟩
    · exact k1.there h1
    · exact k2.there h2
  keep := fun i h h' st kp => by
    obtain ⟨⟨f0, f1, hz, l⟩, hTI, ⟨x, y, hTO⟩, h1, h2⟩ := st
    exact ⟨⟨f0, f1, kp z (by simp) _ hz, l⟩, kp TI (by simp) _ hTI, ⟨x, y, kp TO (by simp) _ hTO⟩, k1.keep h1 fun o q => kp i1 (by simp) o q, k2.keep h2 fun o q => kp i2 (by simp) o q⟩
  item := by
    intro X hP hw hK hc i pins s σ H E I hf st hg
    subst hP hw hK
    obtain ⟨hz, hTI, hTO, h1, h2⟩ := st
    obtain ⟨xs, ys, x, y, qx, qy, hx, hy⟩ := hg
    obtain ⟨us, r1, p1, la⟩ := k1.inv I qx
    obtain ⟨vs, r2, p2, lb⟩ := k2.inv I qy
    have hh : X.A.in1.handled = none := I.ok.hd hc
    have l1 : i < us.toArray.size := by
      have := (List.getElem?_eq_some_iff.mp hx).1
      rw [r1.length] at this
      simpa using this
    have l2 : i < vs.toArray.size := by
      have := (List.getElem?_eq_some_iff.mp hy).1
      rw [r2.length] at this
      simpa using this
    refine zipG_next_item S (k1.draws hh i1 a n1 us.toArray) (k2.draws hh i2 b n2 vs.toArray) hz hTI hTO ⟨h1, p1⟩ ⟨h2, p2⟩ l1 l2 fun u u2 h' tk e1 e2 hz' hTO' s1' s2' hT kp => ⟨_, rfl, ?_⟩
    rw [wh]
    obtain ⟨h1', _⟩ := s1'
    obtain ⟨h2', _⟩ := s2'
    have new : ObjOk X.prog X.w (upd H s.heap.objs.size (.tup [x, y])) h' s.heap.objs.size (.tup [x, y]) :=
      ⟨by show 2 ≤ sizeLine; decide, [u, u2], .cons (get_of r1 hx e1) (.cons (get_of r2 hy e2) .nil), ⟨_, hT, rfl, _, rfl⟩⟩
    have sub : ∀ c, c ∈ [z, TO, i1, i2] → c ∈ [z, TI, TO, i1, i2] := fun c hc => by
      simp only [List.mem_cons, List.not_mem_nil, or_false] at hc ⊢
      rcases hc with q | q | q | q
      · exact .inl q
      · exact .inr (.inr (.inl q))
      · exact .inr (.inr (.inr (.inl q)))
      · exact .inr (.inr (.inr (.inr q)))
    have kp' : ∀ c o, c ∉ [z, TO, i1, i2] → s.heap.get? c = some o → h'.get? c = some o := fun c o hb q => kp c o (fun e => hb (by simp [e])) (fun e => hb (by simp [e])) (fun e => hb (by simp [e])) (fun e => hb (by simp [e])) q
    have I1 : Inv X pins σ (upd H s.heap.objs.size (.tup [x, y])) { s with heap := h', toks := tk } := I.turnedNew (ch := [z, TO, i1, i2]) kp' (fun c hc => hf c (sub c hc)) (Nat.le_refl _) new
    have hTI' : IsTupOf2 h' TI (.ref i1) (.ref i2) := kp _ _ S.TIz S.TITO S.TIi1 S.TIi2 hTI
    refine wpAny_pure ⟨.ref s.heap.objs.size, _, I1, rfl, ⟨s.heap.objs.size, x, y, rfl, I.hok.fresh (Nat.le_refl _), rfl, fun l hl => by rw [k1.inj I hl qx]; exact hx, fun l hl => by rw [k2.inj I hl qy]; exact hy⟩, ⟨hz', hTI', hTO', h1', h2'⟩, fun c hc => ?_⟩
    have lt : c < s.heap.objs.size := by
      obtain ⟨_, _, hz, _⟩ := hz
      simp only [List.mem_cons, List.not_mem_nil, or_false] at hc
      rcases hc with q | q | q | q | q <;> subst q
      · exact Heap.lt_size hz
      · exact Heap.lt_size hTI
      · obtain ⟨_, _, e⟩ := hTO; exact Heap.lt_size e
      · obtain ⟨_, e, _⟩ := k1.there h1; exact Heap.lt_size e
      · obtain ⟨_, e, _⟩ := k2.there h2; exact Heap.lt_size e
    rw [upd_ne (Nat.ne_of_lt lt)]
    exact (hf c hc).1
  done := by
    intro X hP hw hK hc i pins s σ H E I hf st hg
    subst hP hw hK
    obtain ⟨hz, hTI, hTO, h1, h2⟩ := st
    obtain ⟨xs, ys, qx, qy, hi⟩ := hg
    obtain ⟨us, r1, p1, _⟩ := k1.inv I qx
    obtain ⟨vs, r2, p2, _⟩ := k2.inv I qy
    have hh : X.A.in1.handled = none := I.ok.hd hc
    have l1 : xs.length = us.toArray.size := by rw [List.size_toArray]; exact r1.length
    have l2 : ys.length = vs.toArray.size := by rw [List.size_toArray]; exact r2.length
    have sub : ∀ c, c ∈ [z, TO, i1, i2] → c ∈ [z, TI, TO, i1, i2] := fun c hc => by
      simp only [List.mem_cons, List.not_mem_nil, or_false] at hc ⊢
      rcases hc with q | q | q | q
      · exact .inl q
      · exact .inr (.inr (.inl q))
      · exact .inr (.inr (.inr (.inl q)))
      · exact .inr (.inr (.inr (.inr q)))
    refine zipG_next_end S (k1.draws hh i1 a n1 us.toArray) (k2.draws hh i2 b n2 vs.toArray) hz hTI hTO ⟨h1, p1⟩ ⟨h2, p2⟩ (by omega) (by omega) (by omega) fun h' tk kp => ⟨rfl, ?_⟩
    exact I.turnedL (ch := [z, TO, i1, i2]) (fun c o hb q => kp c o (fun e => hb (by simp [e])) (fun e => hb (by simp [e])) (fun e => hb (by simp [e])) (fun e => hb (by simp [e])) q) (fun c hc => hf c (sub c hc))
  self := fun A i s Q E st h => by
    obtain ⟨⟨_, _, hz, _⟩, _⟩ := st
    have hT : s.TypeIs (.ref z) "zip" := ⟨_, hz, rfl⟩
    refine wpAny_pyIter_slot hT F.slot_zip_iter (wpAny_call_entry F.slot_zip_iter hT F.entry_zip_iter ?_ (F.args_zip_iter_1 _))
    show wpAny _ _ (ret (.ref z)) _ _ s
    exact wpAny_pure ⟨_, rfl, "zip", _, hT, F.slot_zip_next.lookup, h⟩
theorem pi_zipN {X : Cx} {tg e e2 : Expr} {ta : TA} {p pos : Pos} (wh : Whole tg) (hg : Gl X "zip") (hm : X.mg "zip" = none) (ha : PA X [e, e2] ta)
    (hs : starEach [e, e2] X.env = (false, eval e X.env) :: starEach [e2] X.env := by rfl) (hpl : (backTo pos (starEach [e2] X.env)).any (·.1) = false := by rfl) :
    PI X tg (.Call (.Name "zip" p) [e, e2] [] pos) (iZipM X.K ta) := by
  refine ⟨fun pins s σ H R I h => ?_⟩
  refine Call_ (ld_blt I hg hm PyProof.Rows.boot_zip (PyProof.Rows.callWith_type1 (thn (ha.run pos pins s σ H _ I h) fun us s1 ⟨vs, H1, I1, r1, q1⟩ => ?_) hs hpl))
  obtain ⟨k1, k2, a, b, xs, ys, ex, qx, qy, q⟩ := q1
  subst ex
  obtain ⟨u1, u2, rfl, ra, rb⟩ := vals2 r1
  obtain rfl : u1 = Value.ref a := ra
  obtain rfl : u2 = Value.ref b := rb
  obtain ⟨its, _, p1, la⟩ := k1.inv I1 qx
  obtain ⟨its2, _, p2, lb⟩ := k2.inv I1 qy
  refine zip_begins2 (k1.begins a its.toArray) (k2.begins b its2.toArray) p1 p2 fun h' hz hTI hTO e1 e2 _ hk => wpAny_pyIter_zip hz ?_
  have I2 : Inv X pins σ H1 { s1 with heap := h' } := I1.kept (t' := s1.toks) hk
  have S := zip_sep2 (N := s1.heap.objs.size) (fp1 := [a]) (fp2 := [b]) (fun c hc => by rw [List.mem_singleton.mp hc]; exact la) (fun c hc => by rw [List.mem_singleton.mp hc]; exact lb)
  refine ⟨s1.heap.objs.size + 4, [s1.heap.objs.size + 4, s1.heap.objs.size + 2, s1.heap.objs.size + 3, s1.heap.objs.size, s1.heap.objs.size + 1], _, _, H1, rfl, I2, turn_whole wh S (Nat.ne_of_lt la) (Nat.ne_of_lt (Nat.lt_succ_of_lt lb)),
    ⟨⟨_, _, hz, .inl rfl⟩, hTI, ⟨_, _, hTO⟩, k1.start e1, k2.start e2⟩, fun c hc => ?_, q⟩
  have hle : s1.heap.objs.size ≤ c := by
    simp only [List.mem_cons, List.not_mem_nil, or_false] at hc
    rcases hc with z | z | z | z | z <;> rw [z]
    · exact Nat.le_add_right _ _
    · exact Nat.le_add_right _ _
    · exact Nat.le_add_right _ _
    · exact Nat.le_refl _
    · exact Nat.le_add_right _ _
  exact I1.fpOk hle (I1.hok.fresh hle)
end PB

/-! PM: loops over zip by one name; min of a list of data. -/
namespace PB
open PySem PySem.Spec L2
open PyProof.Rows hiding St
section
variable {X : Cx} {K : PySem.W.Frag}
theorem k_zipN {x : Str} {e e2 : Expr} {ta : TA} {p pos tpos : Pos} (eK : X.K = K) (hg : Gl X "zip") (hm : X.mg "zip" = none) (ha : PA X [e, e2] ta)
    (hs : starEach [e, e2] X.env = (false, eval e X.env) :: starEach [e2] X.env := by rfl) (hpl : (backTo pos (starEach [e2] X.env)).any (·.1) = false := by rfl) :
    PI X (.Name x tpos) (.Call (.Name "zip" p) [e, e2] [] pos) (iZipM K ta) := by
  subst eK
  exact pi_zipN whole_name hg hm ha hs hpl
end
section
variable {σ : St} {H : Hp} {D : Ends} {K : PySem.W.Frag} {tb : TS} {n : Nat}
theorem f_zipN {k1 k2 : Sk} {a b : Addr} {xs ys : List V} {j : Nat} (h1 : k1.at K H a xs) (h2 : k2.at K H b ys) (hn : n = min xs.length ys.length) (Pv : Nat → St → Hp → Prop) (h0 : Pv 0 σ H) (hG : ∀ i σ H, i ≤ n → Pv i σ H → k1.at K H a xs ∧ k2.at K H b ys)
    (hs : ∀ (i : Nat) x y T σ H, xs[i]? = some x → ys[i]? = some y → Pv i σ H → H T = none → tb { D with nx := Pv (i + 1), ct := Pv (i + 1), bk := D.nx } (σ.set j (some (.ref T))) (upd H T (.tup [x, y]))) (hd : ∀ σ H, Pv n σ H → D.nx σ H) :
    zQ K (FQ (gName j) tb D σ) [.ref a, .ref b] H :=
  z_P h1 h2 (f_it (walk_P hn) Pv h0 hG (fun i x σ H H' _ p y => by
    obtain ⟨T, u, v, e1, h1, e2, e3, e4⟩ := y
    subst e1 e2
    exact hs i u v T σ H e3 e4 p h1) hd)
end
section
variable {σ : St} {H : Hp} {Q : VK} {K : PySem.W.Frag} {tt : TT} {te : TE} {vs : List Nat}
theorem c_zipN {k1 k2 : Sk} {a b : Addr} {xs ys : List V} {j : Nat} (h1 : k1.at K H a xs) (h2 : k2.at K H b ys) (f : V → V → Option V) (hl : xs.length = ys.length) (hn : xs.length < 16000000) (hG : ∀ H', Ex H H' → k1.at K H' a xs ∧ k2.at K H' b ys)
    (hw : ∀ x, wipe ((wipe σ vs).set j (some x)) vs = wipe σ vs)
    (turn : ∀ x y T H1 (q : VK) (N : Hp → Prop), (x, y) ∈ xs.zip ys → Ex H H1 → H1 T = none → (∀ z H4, f x y = some z → Ex H1 H4 → q z H4) → (∀ H3, f x y = none → Ex H1 H3 → N H3) →
      tt ((wipe σ vs).set j (some (.ref T))) (upd H1 T (.tup [x, y])) fun b H4 => if b = true then te ((wipe σ vs).set j (some (.ref T))) H4 q else N H4)
    (done : ∀ L H', H L = none → Ex H H' → H' L = some (.lst ((xs.zip ys).filterMap fun z => f z.1 z.2)) → Q (.ref L) H') : zQ K (CQ (gName j) tt te vs σ Q) [.ref a, .ref b] H := by
  have hz : (xs.zip ys).length = xs.length := by rw [List.length_zip]; omega
  refine z_P h1 h2 (c_fn (walk_P (n := xs.length) (by omega)) (fun i => (xs.zip ys)[i]?.bind fun z => f z.1 z.2) hn hG (fun i x H1 H2 q N hi e1 y hq hN => ?_) (fun L H' h1 h2 h3 => done L H' h1 h2 ?_))
  · obtain ⟨T, u, v, e2, e3, e4, e5, e6⟩ := y
    subst e2 e4
    have ez : (xs.zip ys)[i]? = some (u, v) := by
      rw [List.getElem?_zip_eq_some]
      exact ⟨e5, e6⟩
    refine ⟨hw _, ?_⟩
    have em : (u, v) ∈ xs.zip ys := List.mem_of_getElem? ez
    refine turn u v T H1 q N em e1 e3 (fun z H4 e7 e8 => hq z H4 (by rw [ez]; exact e7) e8) (fun H3 e7 e8 => hN H3 (by rw [ez]; exact e7) e8)
  · rw [← hz] at h3
    rw [h3]
    rw [range_fm (xs.zip ys) fun z => f z.1 z.2]
theorem c_zipNI {k1 k2 : Sk} {a b : Addr} {gs as : List Int} {j : Nat} (h1 : k1.at K H a (gs.map V.int)) (h2 : k2.at K H b (as.map V.int)) (f : Int → Int → Int) (hl : gs.length = as.length) (hn : gs.length < 16000000)
    (hw : ∀ x, wipe ((wipe σ vs).set j (some x)) vs = wipe σ vs)
    (turn : ∀ x y T H1 (q : VK) (N : Hp → Prop), (x, y) ∈ gs.zip as → Ex H H1 → H1 T = none → (∀ H4, Ex H1 H4 → q (.int (f x y)) H4) →
      tt ((wipe σ vs).set j (some (.ref T))) (upd H1 T (.tup [.int x, .int y])) fun b H4 => if b = true then te ((wipe σ vs).set j (some (.ref T))) H4 q else N H4)
    (done : ∀ L H', H L = none → Ex H H' → H' L = some (.lst (((gs.zip as).map fun p => f p.1 p.2).map V.int)) → Q (.ref L) H') : zQ K (CQ (gName j) tt te vs σ Q) [.ref a, .ref b] H := by
  refine c_zipN h1 h2 (fun u v => match u, v with | .int i, .int j => some (V.int (f i j)) | _, _ => none) (by rw [List.length_map, List.length_map]; exact hl) (by rw [List.length_map]; exact hn) (fun H' e => ⟨k1.ex e h1, k2.ex e h2⟩) hw (fun x y T H1 q N hx e hT hq _ => ?_)
    fun L H' d1 d2 d3 => done L H' d1 d2 (d3.trans (congrArg (fun l => some (HO.lst l)) (zip_I f gs as)))
  obtain ⟨i, j, rfl, rfl, hm⟩ := mem_zipI hx
  exact turn i j T H1 q N hm e hT fun H4 e4 => hq _ H4 rfl e4
end
/-! ### min of data -/
section
open PySem.W
variable {X : Cx}
def rMinD (K : PySem.W.Frag) : List V → Hp → VK → Prop := fun vs H Q => ∃ (a : Addr) (xs : List V) (x : PyData) (ds : List PyData), vs = [.ref a] ∧ SqL K H a xs ∧ DpAll K H xs (x :: ds) ∧ AlikeAll (x :: ds) ∧ PyData.depthAll (x :: ds) ≤ 60 ∧
  ∀ (k : Nat) (v : V), xs[k]? = some v → (x :: ds)[k]? = some (minD x ds) → Q v H
theorem cr_minD {j : Nat} (hr : Room j X.A) (hc : X.calm = true) : CallR X (.builtin "min") (rMinD X.K) := by
  intro pins s σ H vs us Q I r h
  obtain ⟨a, xs, x, ds, rfl, hs, hd, ha, hu, q⟩ := h
  obtain ⟨its, rv, hl, _⟩ := I.list hs
  rw [Vals.ref1 r]
  obtain ⟨as, hR⟩ := Dp.readsAll I (x :: ds) xs its hd rv
  have hun := hr.un
  have hn : its.toArray.size = ds.length + 1 := readsAll_len (h := s.heap) (as := as) hR
  refine call_min_walkH (iter_listW (A := X.A.in1) (I.ok.hd hc) hl.isList fun s₂ e W st hfp hw hk => ?_)
  refine ⟨_, _, _, _, _, _, _, s.heap, _, rfl, W, st, hfp, by omega, hw, hk, cmpIn_lt (A := X.A.in1) (as := as) hR ha (by show X.A.units + 1 + _ < _; omega), fun v s' hP m => ?_⟩
  obtain ⟨h', tk, rfl, hk'⟩ := moved_old e rfl m
  have e1 : its.toArray.size - 1 = ds.length := by omega
  obtain ⟨e3, e2⟩ := argBest_fold dataLt PyData.none x ds ds.length (Nat.le_refl _)
  rw [List.take_length] at e2
  rw [e1] at hP
  generalize argBest (fun i j => dataLt ((x :: ds).getD i PyData.none) ((x :: ds).getD j PyData.none)) ds.length = k at *
  have hP : its.toArray[k]? = some v := hP
  have hlen := rv.length
  have lk : k < xs.length := by
    have := (Array.getElem?_eq_some_iff.mp hP).1
    rw [List.size_toArray] at this
    omega
  have hk2 : xs[k]? = some xs[k] := List.getElem?_eq_getElem lk
  have hx : (x :: ds)[k]? = some (minD x ds) := by
    have l2 : k < (x :: ds).length := by rw [List.length_cons]; omega
    rw [List.getElem?_eq_getElem l2]
    rw [List.getD_eq_getElem?_getD, List.getElem?_eq_getElem l2] at e2
    exact congrArg some e2
  exact ⟨xs[k], H, I.kept hk', get_of rv hk2 hP, q k _ hk2 hx⟩
end
end PB
namespace PB
open PySem PySem.Spec L2
open PyProof.Rows hiding St
theorem k_minR {X : Cx} {K : PySem.W.Frag} {j : Nat} (eK : X.K = K) (hr : Room j X.A) (hc : X.calm = true) : CallR X (.builtin "min") (rMinD K) := by
  subst eK
  exact cr_minD hr hc
end PB
namespace PB
open PySem PySem.Spec L2
open PyProof.Rows hiding St
section
variable {K : PySem.W.Frag} {H : Hp} {Q : VK} {a b : Addr}
/-- a list of rows and an empty one -/
theorem r_eqR0 {vs : List V} {rs : List (List Int)} (h1 : SqL K H a vs) (h3 : Rws K H vs rs) (h2 : SqL K H b []) (q : Q (.bl rs.isEmpty) H) : rEqA K (.ref a) (.ref b) H Q := by
  refine .inr ⟨_, _, .lst h1 h3.dp, .lst h2 .nil, sh_R, (by decide +kernel), ?_⟩
  cases rs with
  | nil => exact q
  | cons r rs => exact q
def minR (r : List Int) (rs : List (List Int)) : List Int := rs.foldl (fun a y => if y < a then y else a) r
theorem minD_R : ∀ (rs : List (List Int)) (r : List Int), PySem.W.minD (.tuple (dI r)) (rs.map fun r => .tuple (dI r)) = .tuple (dI (minR r rs))
  | [], r => rfl
  | s :: rs, r => by
    have ih := minD_R rs (if s < r then s else r)
    unfold PySem.W.minD minR at ih ⊢
    rw [List.map_cons, List.foldl_cons, List.foldl_cons, lt_T, ← ih]
    by_cases c : s < r
    · rw [if_pos c, decide_eq_true c]; rfl
    · rw [if_neg c, decide_eq_false c]; rfl
theorem dI_inj : ∀ {xs ys : List Int}, dI xs = dI ys → xs = ys
  | [], [], _ => rfl
  | [], _ :: _, h => by unfold dI at h; cases h
  | _ :: _, [], h => by unfold dI at h; cases h
  | x :: xs, y :: ys, h => by
    unfold dI at h
    rw [List.map_cons, List.map_cons] at h
    injection h with h1 h2
    injection h1 with h1
    rw [h1, dI_inj (xs := xs) (ys := ys) h2]
theorem ali_R (rs : List (List Int)) : PySem.W.AlikeAll (rs.map fun r => .tuple (dI r)) := by
  refine ⟨fun x hx y hy => ?_, fun x hx => ?_⟩
  · obtain ⟨r, _, rfl⟩ := List.mem_map.mp hx
    obtain ⟨s, _, rfl⟩ := List.mem_map.mp hy
    simp only [PySem.W.alike]
    exact ali_I r s
  · obtain ⟨r, _, rfl⟩ := List.mem_map.mp hx
    exact fun e => nomatch e
/-- the least of some rows -/
theorem r_minR {vs : List V} {r : List Int} {rs : List (List Int)} (h1 : SqL K H a vs) (h3 : Rws K H vs (r :: rs)) (q : ∀ (k : Nat) (v : V), vs[k]? = some v → (r :: rs)[k]? = some (minR r rs) → Row K H v (minR r rs) → Q v H) : rMinD K [.ref a] H Q := by
  refine ⟨a, vs, .tuple (dI r), rs.map fun r => .tuple (dI r), rfl, h1, h3.dp, ali_R (r :: rs), Nat.le_trans (dep_R (r :: rs)) (by decide), fun k v hv hk => ?_⟩
  rw [minD_R] at hk
  have hk' : ((r :: rs).map fun r => PyData.tuple (dI r))[k]? = some (.tuple (dI (minR r rs))) := hk
  rw [List.getElem?_map] at hk'
  obtain ⟨s, hs, e⟩ := Option.map_eq_some_iff.mp hk'
  injection e with e
  have e := dI_inj e
  subst e
  obtain ⟨s', hs', row⟩ := h3.get hv
  rw [hs] at hs'
  cases hs'
  exact q k v hv hs row
end
/-- rows of a range -/
theorem c_rngR {σ : St} {H : Hp} {Q : VK} {K : PySem.W.Frag} {tt : TT} {te : TE} {vs : List Nat} {j m : Nat} {lo : Int} (f : Nat → Option (List Int)) (hm : m < 16000000) (hw : ∀ x, wipe ((wipe σ vs).set j (some x)) vs = wipe σ vs)
    (turn : ∀ (i : Nat) H1 (q : VK) (N : Hp → Prop), i < m → Ex H H1 → (∀ v r H4, f i = some r → Ex H1 H4 → Row K H4 v r → q v H4) → (f i = none → ∀ H4, Ex H1 H4 → N H4) →
      tt ((wipe σ vs).set j (some (.int (lo + i)))) H1 fun b H4 => if b = true then te ((wipe σ vs).set j (some (.int (lo + i)))) H4 q else N H4)
    (done : ∀ L H' us, H L = none → Ex H H' → H' L = some (.lst us) → Rws K H' us ((List.range m).filterMap f) → Q (.ref L) H') : CQ (gName j) tt te vs σ Q (Itr lo m) H := by
  refine c_it walk_range hm (fun _ _ => trivial) (fun i acc H' => Rws K H' acc ((List.range i).filterMap f)) (fun _ _ => .nil) (fun L i acc H1 u u' hL _ p => p.put hL) ?_ ?_
  · rintro i x acc H1 H2 q N hi e1 p ⟨rfl, rfl⟩ hq hN
    have tk : (List.range (i + 1)).filterMap f = (List.range i).filterMap f ++ (f i).toList := by
      rw [List.range_succ, List.filterMap_append]
      congr 1
    refine ⟨hw _, turn i H2 q N hi e1 (fun v r H4 er e4 rw' => hq v H4 e4 ?_) fun en H4 e4 => hN H4 e4 ?_⟩
    · rw [tk, er]
      exact (p.ex e4).snoc rw'
    · rw [tk, en, Option.toList_none, List.append_nil]
      exact p.ex e4
  · intro L acc H' h1 h2 h3 _ h5
    exact done L H' acc h1 h2 h3 h5
end PB
namespace PB
open PySem PySem.Spec L2
open PyProof.Rows hiding St
/-- a tuple of small ints can be shown -/
theorem show_T {ns : List Int} (hl : ns.length ≤ 100) (hb : ∀ n ∈ ns, -1000000 ≤ n ∧ n ≤ 1000000) : (PyData.tuple (dI ns)).showable = true ∧ (PyData.tuple (dI ns)).hasDict = false ∧ (PyData.tuple (dI ns)).shown.length ≤ sizeLine ∧ (PyData.tuple (dI ns)).depth ≤ 60 := by
  have big : ∀ n ∈ ns, n.natAbs.log2 < 1920 := fun n hn => by
    have := hb n hn
    exact PyProof.Rows.shown (N := 1000001) (by omega) (by omega) (by decide)
  have hd : ∀ l : List Int, PyData.hasDictAll (l.map .int) = false := fun l => by
    induction l with
    | nil => rfl
    | cons x l ih => simp only [List.map_cons, PyData.hasDictAll, PyData.hasDict, ih, Bool.or_self]
  have hw : ∀ l : List Int, (∀ n ∈ l, n.natAbs.log2 < 1920) → PyData.weightAll (l.map .int) ≤ 2000 * l.length := fun l => by
    induction l with
    | nil => intro _; exact Nat.le_refl _
    | cons x l ih =>
      intro h
      have h1 := h x List.mem_cons_self
      have h2 := ih fun n hn => h n (List.mem_cons_of_mem _ hn)
      simp only [List.map_cons, PyData.weightAll, PyData.weight, List.length_cons]
      split <;> omega
  refine ⟨?_, ?_, ?_, by rw [dep_t]; decide⟩
  · simp only [PyData.showable]
    exact PyData.showableAll_ints ns big
  · simp only [PyData.hasDict]
    exact hd ns
  · refine Nat.le_trans (PyProof.Rows.shown_le13 ?_ ?_) (show 15728653 ≤ sizeLine by decide)
    · have h1 := hw ns big
      show (PyData.canLay0 _ && decide (PyData.depth _ ≤ 64) && decide (PyData.weight _ ≤ 2 ^ 20)) = true
      rw [Bool.and_eq_true, Bool.and_eq_true, decide_eq_true_eq, decide_eq_true_eq]
      refine ⟨⟨?_, by rw [dep_t]; decide⟩, ?_⟩
      · simp only [PyData.canLay0]
        exact lay_I ns
      · simp only [PyData.weight]
        refine Nat.le_trans h1 ?_
        have : 2000 * ns.length ≤ 2000 * 100 := Nat.mul_le_mul_left _ hl
        omega
    · simp only [PyData.intsShort]
      exact PyProof.Rows.intsShortAll_ints2 ns fun n hn => by have := hb n hn; omega
end PB

/-! PV: enumerate(zip(a, b)) by two names: the index, the pair as a whole. -/
namespace PB
open PySem PySem.Spec L2
open PyProof.Rows hiding St
section
variable {prog : Program} {w : World} {A : Around} {E : Value → Shared → Prop} {s : Shared} {e z TI TO i1 i2 : Addr} {fp1 fp2 : List Addr} {n1 n2 i : Nat} {c : Int} {old : Value} {P1 P2 : Nat → Value → Prop} {St1 St2 : Nat → Heap → Prop}
theorem nextOf_zip {Q : Value → Shared → Prop} (S : ZipSep2 z TI TO i1 i2 fp1 fp2) (D1 : Draws prog w A.in1 i1 fp1 n1 P1 St1) (D2 : Draws prog w A.in1 i2 fp2 n2 P2 St2)
    (hz : ZipG s.heap z TI TO) (hTI : IsTupOf2 s.heap TI (.ref i1) (.ref i2)) (hTO : ∃ a1 a2, IsTupOf2 s.heap TO a1 a2) (st1 : St1 i s.heap) (st2 : St2 i s.heap) (hlt1 : i < n1) (hlt2 : i < n2)
    (hQ : ∀ x1 x2 h' tk, P1 i x1 → P2 i x2 → ZipG h' z TI TO → (∃ a1 a2, IsTupOf2 h' TO a1 a2) → St1 (i + 1) h' → St2 (i + 1) h' → IsTupOf2 h' s.heap.objs.size x1 x2 →
      (∀ c o, c ≠ z → c ≠ TO → c ≠ i1 → c ≠ i2 → s.heap.get? c = some o → h'.get? c = some o) → Q (.ref s.heap.objs.size) { s with heap := h', toks := tk }) :
    wpAny (model prog w) A (Builtin.SmallTypes.nextOf (.ref z)) Q E s := by
  have hT : s.TypeIs (.ref z) "zip" := by obtain ⟨_, _, hz, _⟩ := hz; exact ⟨_, hz, rfl⟩
  unfold Builtin.SmallTypes.nextOf
  exact wpAny_bind (wpAny_callSpecial?_slot (name := Str.ofString "__next__") hT F.slot_zip_next
    (wpAny_call_entry F.slot_zip_next hT F.entry_zip_next
      (zipG_item S D1 D2 hz hTI hTO st1 st2 hlt1 hlt2 fun x1 x2 h' tk y1 y2 b1 b2 d1 d2 b5 b7 => wpAny_pure (hQ x1 x2 h' tk y1 y2 b1 b2 d1 d2 b5 b7)) (F.args_zip_next_1 _)))
theorem nextOf_zip_end {Q : Value → Shared → Prop} (S : ZipSep2 z TI TO i1 i2 fp1 fp2) (D1 : Draws prog w A.in1 i1 fp1 n1 P1 St1) (D2 : Draws prog w A.in1 i2 fp2 n2 P2 St2)
    (hz : ZipG s.heap z TI TO) (hTI : IsTupOf2 s.heap TI (.ref i1) (.ref i2)) (hTO : ∃ a1 a2, IsTupOf2 s.heap TO a1 a2) (st1 : St1 i s.heap) (st2 : St2 i s.heap) (hle1 : i ≤ n1) (hle2 : i ≤ n2) (hend : i = n1 ∨ i = n2)
    (hE : ∀ h' tk e, (∀ c o, c ≠ z → c ≠ TO → c ≠ i1 → c ≠ i2 → s.heap.get? c = some o → h'.get? c = some o) → (∃ o, h'.get? e = some o ∧ o.cls = .type "StopIteration") → E (.ref e) { s with heap := h', toks := tk }) :
    wpAny (model prog w) A (Builtin.SmallTypes.nextOf (.ref z)) Q E s := by
  have hT : s.TypeIs (.ref z) "zip" := by obtain ⟨_, _, hz, _⟩ := hz; exact ⟨_, hz, rfl⟩
  unfold Builtin.SmallTypes.nextOf
  exact wpAny_bind (wpAny_callSpecial?_slot (name := Str.ofString "__next__") hT F.slot_zip_next
    (wpAny_call_entry F.slot_zip_next hT F.entry_zip_next (zipG_end S D1 D2 hz hTI hTO st1 st2 hle1 hle2 hend fun h' tk e hk he => hE h' tk e hk he) (F.args_zip_next_1 _)))
/-- the next index and pair -/
theorem enumZ_item {Q : Value → Shared → Prop} (S : ZipSep2 z TI TO i1 i2 fp1 fp2) (D1 : Draws prog w A.in1 i1 fp1 n1 P1 St1) (D2 : Draws prog w A.in1 i2 fp2 n2 P2 St2) (he : IsEnum s.heap e z c old) (ez : e ≠ z) (eTO : e ≠ TO) (ei1 : e ≠ i1) (ei2 : e ≠ i2)
    (hz : ZipG s.heap z TI TO) (hTI : IsTupOf2 s.heap TI (.ref i1) (.ref i2)) (hTO : ∃ a1 a2, IsTupOf2 s.heap TO a1 a2) (st1 : St1 i s.heap) (st2 : St2 i s.heap) (hlt1 : i < n1) (hlt2 : i < n2)
    (hQ : ∀ x1 x2 hm tkm h' tk, P1 i x1 → P2 i x2 → ZipG hm z TI TO → (∃ a1 a2, IsTupOf2 hm TO a1 a2) → St1 (i + 1) hm → St2 (i + 1) hm → IsTupOf2 hm s.heap.objs.size x1 x2 →
      (∀ c o, c ≠ z → c ≠ TO → c ≠ i1 → c ≠ i2 → s.heap.get? c = some o → hm.get? c = some o) → IsEnumOut h' e z (c + 1) (.ref s.heap.objs.size) hm.objs.size →
      h'.get? hm.objs.size = some { cls := .type "tuple", data := .seq #[.int c tkm, .ref s.heap.objs.size] } → (∀ b o, b ≠ e → hm.get? b = some o → h'.get? b = some o) → Q (.ref hm.objs.size) { s with heap := h', toks := tk }) :
    wpAny (model prog w) A (Builtin.«enumerate.__next__» ⟨[.ref e], []⟩) (fun fin s' => ∃ v, fin = .done (.ret v) ∧ Q v s') E s := by
  obtain ⟨hp, g, d, tk₀, os⟩ := s
  show wpAny _ _ (field (.ref e) 2 >>= _) _ _ _
  refine wpAny_bind (wpAny_field he rfl (x := .ref z) rfl ?_)
  refine wpAny_bind (nextOf_zip S D1 D2 hz hTI hTO st1 st2 hlt1 hlt2 fun x1 x2 h₁ tk y1 y2 b1 b2 d1 d2 b5 b7 => ?_)
  replace b7 : ∀ c o, c ≠ z → c ≠ TO → c ≠ i1 → c ≠ i2 → hp.get? c = some o → h₁.get? c = some o := b7
  replace b5 : IsTupOf2 h₁ hp.objs.size x1 x2 := b5
  show wpAny _ _ (field (.ref e) 3 >>= _) _ _ ⟨h₁, g, d, tk, os⟩
  have he₁ : IsEnum h₁ e z c old := b7 _ _ ez eTO ei1 ei2 he
  refine wpAny_bind (wpAny_field he₁ rfl (x := rawInt c) rfl ?_)
  show wpAny _ _ (field (.ref e) 4 >>= _) _ _ ⟨h₁, g, d, tk, os⟩
  refine wpAny_bind (wpAny_field he₁ rfl (x := .none) rfl ?_)
  show wpAny _ _ (mkInt c >>= _) _ _ ⟨h₁, g, d, tk, os⟩
  refine wpAny_bind (wpAny_mkInt ?_)
  show wpAny _ _ (setField (.ref e) 3 (rawInt (c + 1)) >>= _) _ _ ⟨h₁, g, d, tk + 1, os⟩
  refine wpAny_bind (wpAny_setField_rec he₁ (by simp) fun h₂ he₂ hs₂ => ?_)
  replace hs₂ : Heap.SameBut e h₁ h₂ := hs₂
  replace he₂ : IsEnum h₂ e z (c + 1) old := he₂
  show wpAny _ _ (setField (.ref e) 4 .none >>= _) _ _ ⟨h₂, g, d, tk + 1, os⟩
  refine wpAny_bind (wpAny_setField_rec he₂ (by simp) fun h₃ he₃ hs₃ => ?_)
  replace hs₃ : Heap.SameBut e h₂ h₃ := hs₃
  replace he₃ : IsEnum h₃ e z (c + 1) old := he₃
  show wpAny _ _ (newTuple [.int c tk, .ref hp.objs.size] >>= _) _ _ ⟨h₃, g, d, tk + 1, os⟩
  refine wpAny_bind (wpAny_newTuple ?_)
  have he₄ : IsEnum (h₃.push { cls := .type "tuple", data := .seq #[.int c tk, .ref hp.objs.size] }) e z (c + 1) old := Heap.get?_push_of_some _ he₃
  have hsz : h₃.objs.size = h₁.objs.size := by rw [hs₃.1, hs₂.1]
  have hel : e < h₁.objs.size := Heap.lt_size he₁
  have ht₄ : (h₃.push { cls := .type "tuple", data := .seq #[.int c tk, .ref hp.objs.size] }).get? h₁.objs.size = some { cls := .type "tuple", data := .seq #[.int c tk, .ref hp.objs.size] } := by rw [← hsz]; exact Heap.get?_push_size _ rfl
  have hk₄ : ∀ b o, b ≠ e → h₁.get? b = some o → (h₃.push { cls := .type "tuple", data := .seq #[.int c tk, .ref hp.objs.size] }).get? b = some o := fun b o hbe hb =>
    Heap.get?_push_of_some _ (hs₃.extBut b o hbe (hs₂.extBut b o hbe hb))
  generalize h₃.push { cls := .type "tuple", data := .seq #[.int c tk, .ref hp.objs.size] } = h₄ at he₄ ht₄ hk₄ ⊢
  show wpAny _ _ (Builtin.SmallTypes.ownedTupleIsFree (.ref e) >>= _) _ _ ⟨h₄, g, d, tk + 1, os⟩
  rw [hsz]
  refine wpAny_bind ?_
  unfold Builtin.SmallTypes.ownedTupleIsFree
  refine wpAny_bind (wpAny_field he₄ rfl (x := .none) rfl (wpAny_pure ?_))
  simp only [if_true]
  refine wpAny_bind (wpAny_rule ?_)
  refine wpAny_bind (wpAny_field he₄ rfl (x := old) rfl ?_)
  refine wpAny_bind (wpAny_setField_rec he₄ (by simp) fun h₅ he₅ hs₅ => ?_)
  replace hs₅ : Heap.SameBut e h₄ h₅ := hs₅
  replace he₅ : IsEnum h₅ e z (c + 1) (.ref hp.objs.size) := he₅
  show wpAny _ _ (Builtin.SmallTypes.ownedTupleHandOut (.ref e) (.ref h₁.objs.size) >>= _) _ _ ⟨h₅, g, d, tk + 1, os⟩
  refine wpAny_bind ?_
  unfold Builtin.SmallTypes.ownedTupleHandOut
  refine wpAny_bind (wpAny_setField_rec he₅ (by simp) fun h₆ he₆ hs₆ => ?_)
  replace hs₆ : Heap.SameBut e h₅ h₆ := hs₆
  replace he₆ : IsEnumOut h₆ e z (c + 1) (.ref hp.objs.size) h₁.objs.size := he₆
  refine wpAny_setField_rec he₆ (by simp) fun h₇ he₇ hs₇ => ?_
  replace hs₇ : Heap.SameBut e h₆ h₇ := hs₇
  replace he₇ : IsEnumOut h₇ e z (c + 1) (.ref hp.objs.size) h₁.objs.size := he₇
  have up : ∀ b o, b ≠ e → h₄.get? b = some o → h₇.get? b = some o := fun b o hbe hb => hs₇.extBut b o hbe (hs₆.extBut b o hbe (hs₅.extBut b o hbe hb))
  exact wpAny_bind (wpAny_letGo (wpAny_pure ⟨_, rfl, hQ x1 x2 h₁ tk h₇ (tk + 1) y1 y2 b1 b2 d1 d2 b5 b7 he₇ (up _ _ (Nat.ne_of_gt hel) ht₄) fun b o hbe hb => up b o hbe (hk₄ b o hbe hb)⟩))
theorem enumZ_next_item {Q : Option Value → Shared → Prop} (S : ZipSep2 z TI TO i1 i2 fp1 fp2) (D1 : Draws prog w A.in1.in1 i1 fp1 n1 P1 St1) (D2 : Draws prog w A.in1.in1 i2 fp2 n2 P2 St2) (he : IsEnum s.heap e z c old) (ez : e ≠ z) (eTO : e ≠ TO) (ei1 : e ≠ i1) (ei2 : e ≠ i2)
    (hz : ZipG s.heap z TI TO) (hTI : IsTupOf2 s.heap TI (.ref i1) (.ref i2)) (hTO : ∃ a1 a2, IsTupOf2 s.heap TO a1 a2) (st1 : St1 i s.heap) (st2 : St2 i s.heap) (hlt1 : i < n1) (hlt2 : i < n2)
    (hQ : ∀ x1 x2 hm tkm h' tk, P1 i x1 → P2 i x2 → ZipG hm z TI TO → (∃ a1 a2, IsTupOf2 hm TO a1 a2) → St1 (i + 1) hm → St2 (i + 1) hm → IsTupOf2 hm s.heap.objs.size x1 x2 →
      (∀ c o, c ≠ z → c ≠ TO → c ≠ i1 → c ≠ i2 → s.heap.get? c = some o → hm.get? c = some o) → IsEnumOut h' e z (c + 1) (.ref s.heap.objs.size) hm.objs.size →
      h'.get? hm.objs.size = some { cls := .type "tuple", data := .seq #[.int c tkm, .ref s.heap.objs.size] } → (∀ b o, b ≠ e → hm.get? b = some o → h'.get? b = some o) → Q (some (.ref hm.objs.size)) { s with heap := h', toks := tk }) :
    wpAny (model prog w) A (pyNext (.ref e)) Q E s := by
  have hT : s.TypeIs (.ref e) "enumerate" := ⟨_, he, rfl⟩
  unfold pyNext
  exact wpAny_bind (wpAny_attempt (wpAny_callSpecial?_slot (name := Str.ofString "__next__") hT F.slot_enumerate_next
    (wpAny_call_entry F.slot_enumerate_next hT F.entry_enumerate_next
      (enumZ_item S D1 D2 he ez eTO ei1 ei2 hz hTI hTO st1 st2 hlt1 hlt2 fun x1 x2 hm tkm h' tk y1 y2 b1 b2 d1 d2 b5 b7 u1 u2 u3 => wpAny_pure (hQ x1 x2 hm tkm h' tk y1 y2 b1 b2 d1 d2 b5 b7 u1 u2 u3)) (F.args_enumerate_next_1 _))))
theorem enumZ_next_end {Q : Option Value → Shared → Prop} (S : ZipSep2 z TI TO i1 i2 fp1 fp2) (D1 : Draws prog w A.in1.in1 i1 fp1 n1 P1 St1) (D2 : Draws prog w A.in1.in1 i2 fp2 n2 P2 St2) (he : IsEnum s.heap e z c old)
    (hz : ZipG s.heap z TI TO) (hTI : IsTupOf2 s.heap TI (.ref i1) (.ref i2)) (hTO : ∃ a1 a2, IsTupOf2 s.heap TO a1 a2) (st1 : St1 i s.heap) (st2 : St2 i s.heap) (hle1 : i ≤ n1) (hle2 : i ≤ n2) (hend : i = n1 ∨ i = n2)
    (hQ : ∀ h' tk, (∀ c o, c ≠ z → c ≠ TO → c ≠ i1 → c ≠ i2 → s.heap.get? c = some o → h'.get? c = some o) → Q none { s with heap := h', toks := tk }) : wpAny (model prog w) A (pyNext (.ref e)) Q E s := by
  have hT : s.TypeIs (.ref e) "enumerate" := ⟨_, he, rfl⟩
  unfold pyNext
  refine wpAny_bind (wpAny_attempt (wpAny_callSpecial?_slot (name := Str.ofString "__next__") hT F.slot_enumerate_next
    (wpAny_call_entry F.slot_enumerate_next hT F.entry_enumerate_next ?_ (F.args_enumerate_next_1 _))))
  show wpAny _ _ (field (.ref e) 2 >>= _) _ _ _
  refine wpAny_bind (wpAny_field he rfl (x := .ref z) rfl ?_)
  refine wpAny_bind (nextOf_zip_end S D1 D2 hz hTI hTO st1 st2 hle1 hle2 hend fun h' tk x hk hx => ?_)
  obtain ⟨o, ho, hc⟩ := hx
  refine wpAny_bind (wpAny_isInstance (T := "StopIteration") (b := true) ⟨o, ho, hc⟩ isSubtype_stop ?_)
  exact wpAny_pure (hQ _ _ hk)
end
/-- the pairs of two sources, each with its index -/
def ItEZ (K : PySem.W.Frag) (k1 k2 : Sk) (a b : Addr) : It :=
  ⟨fun i H => ∃ (xs ys : List V) (x y : V), k1.at K H a xs ∧ k2.at K H b ys ∧ xs[i]? = some x ∧ ys[i]? = some y,
    fun i H v H' => ∃ T U x y, v = .ref U ∧ H T = none ∧ H U = none ∧ T ≠ U ∧ H' = upd (upd H T (.tup [x, y])) U (.tup [.int (i : Nat), .ref T]) ∧ (∀ xs, k1.at K H a xs → xs[i]? = some x) ∧ ∀ ys, k2.at K H b ys → ys[i]? = some y,
    fun i H => ∃ xs ys : List V, k1.at K H a xs ∧ k2.at K H b ys ∧ i = min xs.length ys.length⟩
theorem turn_ez {P : Program} {w : World} {K : PySem.W.Frag} {elts : List Expr} {kk : Nat} {tpos : Pos} {k1 k2 : Sk} {a b e z TI TO i1 i2 : Addr} (S : ZipSep2 z TI TO i1 i2 [i1, a] [i2, b]) (n1 : a ≠ i1) (n2 : b ≠ i2) (ez : e ≠ z) (eTI : e ≠ TI) (eTO : e ≠ TO) (ei1 : e ≠ i1) (ei2 : e ≠ i2) (ea : e ≠ a) (eb : e ≠ b) :
    Turn P w K (.Tuple elts kk tpos) (ItEZ K k1 k2 a b) [e, z, TI, TO, i1, i2] e (fun i h => (∃ old, IsEnum h e z (i : Nat) old) ∧ ZipG h z TI TO ∧ IsTupOf2 h TI (.ref i1) (.ref i2) ∧ (∃ x y, IsTupOf2 h TO x y) ∧ k1.iter h i1 a i ∧ k2.iter h i2 b i) where
  mem := by simp
  obj := fun i h st c hc => by
    obtain ⟨⟨_, he⟩, ⟨_, _, hz, _⟩, hTI, ⟨x, y, hTO⟩, h1, h2⟩ := st
    simp only [List.mem_cons, List.not_mem_nil, or_false] at hc
    rcases hc with q | q | q | q | q | q <;> subst q
    · exact ⟨_, he, fun v q => nomatch q⟩
    · exact ⟨_, hz, fun v q => nomatch q⟩
    · exact ⟨_, hTI, fun v q => nomatch q⟩
    · exact ⟨_, hTO, fun v q => nomatch q⟩
    · exact k1.there h1
    · exact k2.there h2
  keep := fun i h h' st kp => by
    obtain ⟨⟨old, he⟩, ⟨f0, f1, hz, l⟩, hTI, ⟨x, y, hTO⟩, h1, h2⟩ := st
    exact ⟨⟨old, kp e (by simp) _ he⟩, ⟨f0, f1, kp z (by simp) _ hz, l⟩, kp TI (by simp) _ hTI, ⟨x, y, kp TO (by simp) _ hTO⟩, k1.keep h1 fun o q => kp i1 (by simp) o q, k2.keep h2 fun o q => kp i2 (by simp) o q⟩
  item := by
    intro X hP hw hK hc i pins s σ H E I hf st hg
    subst hP hw hK
    obtain ⟨⟨old, he⟩, hz, hTI, hTO, h1, h2⟩ := st
    obtain ⟨xs, ys, x, y, qx, qy, hx, hy⟩ := hg
    obtain ⟨us, r1, p1, la⟩ := k1.inv I qx
    obtain ⟨vs, r2, p2, lb⟩ := k2.inv I qy
    have hh : X.A.in1.in1.handled = none := I.ok.hd hc
    have l1 : i < us.toArray.size := by
      have := (List.getElem?_eq_some_iff.mp hx).1
      rw [r1.length] at this
      simpa using this
    have l2 : i < vs.toArray.size := by
      have := (List.getElem?_eq_some_iff.mp hy).1
      rw [r2.length] at this
      simpa using this
    have ltz : z < s.heap.objs.size := by obtain ⟨_, _, hz, _⟩ := hz; exact Heap.lt_size hz
    have ltTO : TO < s.heap.objs.size := by obtain ⟨_, _, q⟩ := hTO; exact Heap.lt_size q
    have lt1 : i1 < s.heap.objs.size := by obtain ⟨_, q, _⟩ := k1.there h1; exact Heap.lt_size q
    have lt2 : i2 < s.heap.objs.size := by obtain ⟨_, q, _⟩ := k2.there h2; exact Heap.lt_size q
    have lte : e < s.heap.objs.size := Heap.lt_size he
    refine enumZ_next_item S (k1.draws hh i1 a n1 us.toArray) (k2.draws hh i2 b n2 vs.toArray) he ez eTO ei1 ei2 hz hTI hTO ⟨h1, p1⟩ ⟨h2, p2⟩ l1 l2 fun u u2 hm tkm h' tk e1 e2 hz' hTO' s1' s2' hT kp ho hU kp2 => ⟨_, rfl, ?_⟩
    obtain ⟨h1', _⟩ := s1'
    obtain ⟨h2', _⟩ := s2'
    have ltm : s.heap.objs.size < hm.objs.size := Heap.lt_size hT
    have new : ObjOk X.prog X.w (upd H s.heap.objs.size (.tup [x, y])) hm s.heap.objs.size (.tup [x, y]) :=
      ⟨by show 2 ≤ sizeLine; decide, [u, u2], .cons (get_of r1 hx e1) (.cons (get_of r2 hy e2) .nil), ⟨_, hT, rfl, _, rfl⟩⟩
    have sub : ∀ c, c ∈ [z, TO, i1, i2] → c ∈ [e, z, TI, TO, i1, i2] := fun c hc => by
      simp only [List.mem_cons, List.not_mem_nil, or_false] at hc ⊢
      rcases hc with q | q | q | q
      · exact .inr (.inl q)
      · exact .inr (.inr (.inr (.inl q)))
      · exact .inr (.inr (.inr (.inr (.inl q))))
      · exact .inr (.inr (.inr (.inr (.inr q))))
    have kp' : ∀ c o, c ∉ [z, TO, i1, i2] → s.heap.get? c = some o → hm.get? c = some o := fun c o hb q => kp c o (fun e => hb (by simp [e])) (fun e => hb (by simp [e])) (fun e => hb (by simp [e])) (fun e => hb (by simp [e])) q
    have I1 : Inv X pins σ (upd H s.heap.objs.size (.tup [x, y])) { s with heap := hm, toks := tkm } := I.turnedNew (ch := [z, TO, i1, i2]) kp' (fun c hc => hf c (sub c hc)) (Nat.le_refl _) new
    refine wpAny_letOwnedTupleGo_enum ho fun h3 he3 hs3 => ?_
    replace hs3 : Heap.SameBut e h' h3 := hs3
    have kp3 : ∀ b o, b ≠ e → hm.get? b = some o → h3.get? b = some o := fun b o hb q => hs3.extBut b o hb (kp2 b o hb q)
    have new2 : ObjOk X.prog X.w (upd (upd H s.heap.objs.size (.tup [x, y])) hm.objs.size (.tup [.int (i : Nat), .ref s.heap.objs.size])) h3 hm.objs.size (.tup [.int (i : Nat), .ref s.heap.objs.size]) :=
      ⟨by show 2 ≤ sizeLine; decide, [.int (i : Nat) tkm, .ref s.heap.objs.size], .cons ⟨tkm, rfl⟩ (.cons rfl .nil), ⟨_, hs3.extBut _ _ (Nat.ne_of_gt (Nat.lt_trans lte ltm)) hU, rfl, _, rfl⟩⟩
    have fe : FpOk X pins (upd H s.heap.objs.size (.tup [x, y])) e := by
      have q := hf e (by simp)
      exact ⟨(upd_ne (Nat.ne_of_lt lte)).trans q.1, q.2⟩
    have I2 : Inv X pins σ (upd (upd H s.heap.objs.size (.tup [x, y])) hm.objs.size (.tup [.int (i : Nat), .ref s.heap.objs.size])) { s with heap := h3, toks := tk } :=
      I1.turnedNew (t' := tk) (ch := [e]) (fun c o hb q => kp3 c o (fun z => hb (by simp [z])) q) (fun c hc => by rw [List.mem_singleton.mp hc]; exact fe) (Nat.le_refl _) new2
    have hTI' : IsTupOf2 h3 TI (.ref i1) (.ref i2) := kp3 _ _ (Ne.symm eTI) (kp _ _ S.TIz S.TITO S.TIi1 S.TIi2 hTI)
    have hz3 : ZipG h3 z TI TO := by obtain ⟨f0, f1, q, l⟩ := hz'; exact ⟨f0, f1, kp3 _ _ (Ne.symm ez) q, l⟩
    have hTO3 : ∃ x y, IsTupOf2 h3 TO x y := by obtain ⟨x, y, q⟩ := hTO'; exact ⟨x, y, kp3 _ _ (Ne.symm eTO) q⟩
    have i13 : k1.iter h3 i1 a (i + 1) := k1.keep h1' fun o q => kp3 _ _ (Ne.symm ei1) q
    have i23 : k2.iter h3 i2 b (i + 1) := k2.keep h2' fun o q => kp3 _ _ (Ne.symm ei2) q
    refine ⟨.ref hm.objs.size, _, I2, rfl, ⟨s.heap.objs.size, hm.objs.size, x, y, rfl, I.hok.fresh (Nat.le_refl _), I.hok.fresh (Nat.le_of_lt ltm), Nat.ne_of_lt ltm, rfl, fun l hl => by rw [k1.inj I hl qx]; exact hx, fun l hl => by rw [k2.inj I hl qy]; exact hy⟩, ⟨⟨_, by rw [Int.natCast_add]; exact he3⟩, hz3, hTI', hTO3, i13, i23⟩, fun c hc => ?_⟩
    have lt : c < s.heap.objs.size := by
      simp only [List.mem_cons, List.not_mem_nil, or_false] at hc
      rcases hc with q | q | q | q | q | q <;> rw [q]
      · exact lte
      · exact ltz
      · exact Heap.lt_size hTI
      · exact ltTO
      · exact lt1
      · exact lt2
    rw [upd_ne (Nat.ne_of_lt (Nat.lt_trans lt ltm)), upd_ne (Nat.ne_of_lt lt)]
    exact (hf c hc).1
  done := by
    intro X hP hw hK hc i pins s σ H E I hf st hg
    subst hP hw hK
    obtain ⟨⟨old, he⟩, hz, hTI, hTO, h1, h2⟩ := st
    obtain ⟨xs, ys, qx, qy, hi⟩ := hg
    obtain ⟨us, r1, p1, _⟩ := k1.inv I qx
    obtain ⟨vs, r2, p2, _⟩ := k2.inv I qy
    have hh : X.A.in1.in1.handled = none := I.ok.hd hc
    have l1 : xs.length = us.toArray.size := by rw [List.size_toArray]; exact r1.length
    have l2 : ys.length = vs.toArray.size := by rw [List.size_toArray]; exact r2.length
    have sub : ∀ c, c ∈ [z, TO, i1, i2] → c ∈ [e, z, TI, TO, i1, i2] := fun c hc => by
      simp only [List.mem_cons, List.not_mem_nil, or_false] at hc ⊢
      rcases hc with q | q | q | q
      · exact .inr (.inl q)
      · exact .inr (.inr (.inr (.inl q)))
      · exact .inr (.inr (.inr (.inr (.inl q))))
      · exact .inr (.inr (.inr (.inr (.inr q))))
    refine enumZ_next_end S (k1.draws hh i1 a n1 us.toArray) (k2.draws hh i2 b n2 vs.toArray) he hz hTI hTO ⟨h1, p1⟩ ⟨h2, p2⟩ (by omega) (by omega) (by omega) fun h' tk kp => ⟨rfl, ?_⟩
    exact I.turnedL (ch := [z, TO, i1, i2]) (fun c o hb q => kp c o (fun e => hb (by simp [e])) (fun e => hb (by simp [e])) (fun e => hb (by simp [e])) (fun e => hb (by simp [e])) q) (fun c hc => hf c (sub c hc))
  self := fun A i s Q E st h => let ⟨⟨_, he⟩, _⟩ := st; wpAny_pyIter_enum he h
set_option maxHeartbeats 8000000 in
theorem enum_newZ {z TI TO : Addr} : Meets (Builtin.«enumerate.__new__» ⟨[.type "enumerate", .ref z], []⟩) fun _ R s => IsZip s.heap z TI TO .none ∧
      R (.ok (.ret (.ref s.heap.objs.size))) { s with heap := s.heap.push { cls := .type "enumerate", data := .fields #[.none, .bool false, .ref z, rawInt 0, .none, .none] } } :=
  .of_wp fun prog w A R s h => by
    obtain ⟨hp, g, d, tk, os⟩ := s
    obtain ⟨h1, h⟩ := h
    have sb := sub_enumerate
    have q1 : ∀ {A' : Around} {E Q : Value → Shared → Prop}, Q (.ref z) ⟨hp, g, d, tk, os⟩ → wpAny (model prog w) A' (pyIter (.ref z)) Q E ⟨hp, g, d, tk, os⟩ := fun q => wpAny_pyIter_zip h1 q
    wp_walk using q1
    refine wpAny_stack_any fun st => wpAny_pure ?_
    split
    · rename_i c _ _ _ _ _
      cases (c == Value.type "enumerate") <;> (wp_walk using q1; exact ⟨_, rfl, h⟩)
    · wp_walk using q1
      exact ⟨_, rfl, h⟩
theorem enum_beginsZ {prog : Program} {w : World} {A : Around} {E Q : Value → Shared → Prop} {s : Shared} {z TI TO : Addr} (h1 : IsZip s.heap z TI TO .none)
    (h : ∀ h', IsEnum h' s.heap.objs.size z 0 .none → (∀ b u, s.heap.get? b = some u → h'.get? b = some u) → Q (.ref s.heap.objs.size) { s with heap := h' }) :
    wpAny (model prog w) A (call (.type "enumerate") [.ref z]) Q E s := by
  refine callType_new F.called_enumerate (by decide) (F.typeCall_enumerate_1 _) (F.newCall_enumerate_1 _) (fun x => F.args_object_init_2 x _) F.entry_enumerate_new enum_newZ ⟨h1, ?_⟩
  show _ ∧ _
  have he : IsEnum (s.heap.push { cls := .type "enumerate", data := .fields #[.none, .bool false, .ref z, rawInt 0, .none, .none] }) s.heap.objs.size z 0 .none := Heap.get?_push_size _ rfl
  exact ⟨⟨_, he, rfl⟩, h _ he fun b u x => Heap.get?_push_of_some _ x⟩
def iEZ (K : PySem.W.Frag) (ta : TA) : TI := fun σ H R => ta σ H fun vs H1 => ∃ (k1 k2 : Sk) (a b : Addr) (xs ys : List V), vs = [.ref a, .ref b] ∧ k1.at K H1 a xs ∧ k2.at K H1 b ys ∧ R (ItEZ K k1 k2 a b) H1
theorem pi_ez {X : Cx} {K : PySem.W.Frag} {e e2 : Expr} {ta : TA} {p p2 pos pos2 tpos : Pos} {elts : List Expr} {kk : Nat} (eK : X.K = K) (hg : Gl X "enumerate") (hm : X.mg "enumerate" = none) (hg2 : Gl X "zip") (hm2 : X.mg "zip" = none) (ha : PA X [e, e2] ta)
    (hs0 : starEach [.Call (.Name "zip" p2) [e, e2] [] pos2] X.env = [(false, eval (.Call (.Name "zip" p2) [e, e2] [] pos2) X.env)] := by rfl)
    (hs : starEach [e, e2] X.env = (false, eval e X.env) :: starEach [e2] X.env := by rfl) (hpl : (backTo pos2 (starEach [e2] X.env)).any (·.1) = false := by rfl) :
    PI X (.Tuple elts kk tpos) (.Call (.Name "enumerate" p) [.Call (.Name "zip" p2) [e, e2] [] pos2] [] pos) (iEZ K ta) := by
  subst eK
  refine ⟨fun pins s σ H R I h => ?_⟩
  refine Call_ (ld_blt I hg hm boot_enumerate (PyProof.Rows.callWith_type1 ?_ hs0 rfl))
  rw [hs0]
  show wpAny _ _ (spliced ((false, eval (.Call (.Name "zip" p2) [e, e2] [] pos2) X.env) :: backTo pos (starEach [] X.env))) _ _ s
  refine Calls.spliced_cons ?_
  refine Call_ (ld_blt I hg2 hm2 PyProof.Rows.boot_zip (PyProof.Rows.callWith_type1 (thn (ha.run pos2 pins s σ H _ I h) fun us s1 ⟨vs, H1, I1, r1, q1⟩ => ?_) hs hpl))
  obtain ⟨k1, k2, a, b, xs, ys, ex, qx, qy, q⟩ := q1
  subst ex
  obtain ⟨u1, u2, rfl, ra, rb⟩ := vals2 r1
  obtain rfl : u1 = Value.ref a := ra
  obtain rfl : u2 = Value.ref b := rb
  obtain ⟨its, _, p1, la⟩ := k1.inv I1 qx
  obtain ⟨its2, _, p2, lb⟩ := k2.inv I1 qy
  refine zip_begins2 (k1.begins a its.toArray) (k2.begins b its2.toArray) p1 p2 fun h' hz hTI hTO e1 e2 sz hk => ?_
  have I2 : Inv X pins σ H1 { s1 with heap := h' } := I1.kept (t' := s1.toks) hk
  refine Calls.spliced_nil ?_
  have S := zip_sep2 (N := s1.heap.objs.size) (fp1 := [a]) (fp2 := [b]) (fun c hc => by rw [List.mem_singleton.mp hc]; exact la) (fun c hc => by rw [List.mem_singleton.mp hc]; exact lb)
  have la' : (a : Nat) < s1.heap.objs.size := la
  have lb' : (b : Nat) < s1.heap.objs.size := lb
  have far : ∀ {c : Nat}, c < s1.heap.objs.size + 5 → (h'.objs.size : Nat) ≠ c := fun hc => by omega
  refine enum_beginsZ (s := { s1 with heap := h' }) hz fun h2 he hk2 => wpAny_pyIter_enum he ?_
  have I3 : Inv X pins σ H1 { s1 with heap := h2 } := I2.kept (t' := s1.toks) hk2
  refine ⟨h'.objs.size, [h'.objs.size, s1.heap.objs.size + 4, s1.heap.objs.size + 2, s1.heap.objs.size + 3, s1.heap.objs.size, s1.heap.objs.size + 1], _, _, H1, rfl, I3,
    turn_ez S (Nat.ne_of_lt la) (Nat.ne_of_lt (Nat.lt_succ_of_lt lb)) (far (by omega)) (far (by omega)) (far (by omega)) (far (by omega)) (far (by omega)) (far (Nat.lt_of_lt_of_le la (Nat.le_add_right _ _))) (far (Nat.lt_of_lt_of_le lb (Nat.le_add_right _ _))),
    ⟨⟨_, he⟩, ⟨_, _, hk2 _ _ hz, .inl rfl⟩, hk2 _ _ hTI, ⟨_, _, hk2 _ _ hTO⟩, k1.start (hk2 _ _ e1), k2.start (hk2 _ _ e2)⟩, fun c hc => ?_, q⟩
  have hle : s1.heap.objs.size ≤ c := by
    simp only [List.mem_cons, List.not_mem_nil, or_false] at hc
    rcases hc with z | z | z | z | z | z <;> rw [z]
    · rw [sz]; exact Nat.le_add_right _ _
    · exact Nat.le_add_right _ _
    · exact Nat.le_add_right _ _
    · exact Nat.le_add_right _ _
    · exact Nat.le_refl _
    · exact Nat.le_add_right _ _
  exact I1.fpOk hle (I1.hok.fresh hle)
def ezQ (K : PySem.W.Frag) (R : It → Hp → Prop) : List V → Hp → Prop := fun vs H1 => ∃ (k1 k2 : Sk) (a b : Addr) (xs ys : List V), vs = [.ref a, .ref b] ∧ k1.at K H1 a xs ∧ k2.at K H1 b ys ∧ R (ItEZ K k1 k2 a b) H1
/-- what each turn brings -/
def YEZ (f g : Nat → Option V) : Nat → Hp → V → Hp → Prop := fun i H v H' => ∃ T U x y, v = .ref U ∧ H T = none ∧ H U = none ∧ T ≠ U ∧ H' = upd (upd H T (.tup [x, y])) U (.tup [.int (i : Nat), .ref T]) ∧ f i = some x ∧ g i = some y
section
variable {σ : St} {H : Hp} {D : Ends} {K : PySem.W.Frag} {tb : TS} {ta : TA} {R : It → Hp → Prop} {n : Nat} {a b : Addr} {xs ys : List V}
theorem r_iEZ (h : ta σ H (ezQ K R)) : iEZ K ta σ H R := h
theorem walk_EZ {k1 k2 : Sk} {n : Nat} (hn : n = min xs.length ys.length) : Walk (ItEZ K k1 k2 a b) n (fun H => k1.at K H a xs ∧ k2.at K H b ys) (YEZ (fun i => xs[i]?) (fun i => ys[i]?)) := by
  subst hn
  refine ⟨fun i _ hi q => ?_, fun _ q => ⟨xs, ys, q.1, q.2, rfl⟩, fun i H v H' _ q y => ?_⟩
  · have h1 : i < xs.length := by omega
    have h2 : i < ys.length := by omega
    exact ⟨xs, ys, xs[i], ys[i], q.1, q.2, List.getElem?_eq_getElem h1, List.getElem?_eq_getElem h2⟩
  · obtain ⟨T, U, x, z, h1, h2, h3, h3', h4, h5, h6⟩ := y
    exact ⟨T, U, x, z, h1, h2, h3, h3', h4, h5 xs q.1, h6 ys q.2⟩
/-- enumerate(zip(..)) by two names -/
theorem f_ez {k1 k2 : Sk} {j l : Nat} (h1 : k1.at K H a xs) (h2 : k2.at K H b ys) (hn : n = min xs.length ys.length) (Pv : Nat → St → Hp → Prop) (h0 : Pv 0 σ H) (hG : ∀ i σ H, i ≤ n → Pv i σ H → k1.at K H a xs ∧ k2.at K H b ys)
    (hs : ∀ (i : Nat) x y T U σ H, i < n → xs[i]? = some x → ys[i]? = some y → Pv i σ H → H T = none → H U = none → T ≠ U → tb { D with nx := Pv (i + 1), ct := Pv (i + 1), bk := D.nx } ((σ.set j (some (.int (i : Nat)))).set l (some (.ref T))) (upd (upd H T (.tup [x, y])) U (.tup [.int (i : Nat), .ref T]))) (hd : ∀ σ H, Pv n σ H → D.nx σ H) :
    ezQ K (FQ (gTup K 2 (gCons (gName j) (gCons (gName l) gNil))) tb D σ) [.ref a, .ref b] H :=
  ⟨k1, k2, a, b, xs, ys, rfl, h1, h2, f_it (walk_EZ hn) Pv h0 hG (fun i x σ H H' hi p y => by
    obtain ⟨T, U, u, v, e1, t1, t2, ne, e2, e3, e4⟩ := y
    subst e1 e2
    exact g_two (hs i u v T U σ H hi e3 e4 p t1 t2 ne)) hd⟩
end
end PB

/-! PU: nested data (none, bools, ints, texts, tuples, lists) as values; texts walked, picked from, joined, repeated. -/
namespace PB
open PySem PySem.Spec L2
open PyProof.Rows hiding St
section
variable {K : PySem.W.Frag} {H H' : Hp} {v : V} {a d : Addr} {p : PyData} {vs : List V} {ds : List PyData}
def tyD : PyData → String
  | .none => "NoneType"
  | .bool _ => "bool"
  | .int _ => "int"
  | .str _ => "str"
  | .list _ => "list"
  | .tuple _ => "tuple"
  | .dict _ => "dict"
theorem IsTy.sqL {xs : List V} (h : SqL K H a xs) : IsTy K H (.ref a) "list" := by
  rcases h with (h | ⟨o, h⟩) | ⟨o, its, n, h, c, _⟩
  · exact .lst h
  · exact ⟨.base (.frz h), by decide⟩
  · exact ⟨.kList h c, by decide⟩
theorem Dp.ty (h : Dp K H v p) : IsTy K H v (tyD p) := by
  cases h with
  | non => exact .non
  | bl b => exact .bl b
  | int i => exact .int i
  | str x => exact .str x
  | lst h _ => exact .sqL h
  | tup h _ => exact .sqT h
mutual
theorem dp_mono (ml : ∀ a xs, SqL K H a xs → SqL K H' a xs) (mt : ∀ a xs, SqT K H a xs → SqT K H' a xs) : ∀ (p : PyData) (v : V), Dp K H v p → Dp K H' v p
  | .none, _, .non => .non
  | .bool _, _, .bl b => .bl b
  | .int _, _, .int i => .int i
  | .str _, _, .str x => .str x
  | .list ds, _, .lst h k => .lst (ml _ _ h) (dpAll_mono ml mt ds _ k)
  | .tuple ds, _, .tup h k => .tup (mt _ _ h) (dpAll_mono ml mt ds _ k)
theorem dpAll_mono (ml : ∀ a xs, SqL K H a xs → SqL K H' a xs) (mt : ∀ a xs, SqT K H a xs → SqT K H' a xs) : ∀ (ds : List PyData) (vs : List V), DpAll K H vs ds → DpAll K H' vs ds
  | [], _, .nil => .nil
  | d :: ds, _, .cons h k => .cons (dp_mono ml mt d _ h) (dpAll_mono ml mt ds _ k)
end
mutual
/-- no list within -/
def nl : PyData → Bool
  | .list _ | .dict _ => false
  | .tuple xs => nlAll xs
  | _ => true
def nlAll : List PyData → Bool
  | [] => true
  | x :: xs => nl x && nlAll xs
end
mutual
theorem dp_nl (mt : ∀ a xs, SqT K H a xs → SqT K H' a xs) : ∀ (p : PyData) (v : V), nl p = true → Dp K H v p → Dp K H' v p
  | .none, _, _, .non => .non
  | .bool _, _, _, .bl b => .bl b
  | .int _, _, _, .int i => .int i
  | .str _, _, _, .str x => .str x
  | .list ds, _, e, .lst h k => by simp only [nl] at e; cases e
  | .tuple ds, _, e, .tup h k => .tup (mt _ _ h) (dpAll_nl mt ds _ (by simpa only [nl] using e) k)
theorem dpAll_nl (mt : ∀ a xs, SqT K H a xs → SqT K H' a xs) : ∀ (ds : List PyData) (vs : List V), nlAll ds = true → DpAll K H vs ds → DpAll K H' vs ds
  | [], _, _, .nil => .nil
  | d :: ds, _, e, .cons h k => by
    have e' : nl d = true ∧ nlAll ds = true := by simpa only [nlAll, Bool.and_eq_true] using e
    exact .cons (dp_nl mt d _ e'.1 h) (dpAll_nl mt ds _ e'.2 k)
end
theorem nlAll_iff : ∀ ds : List PyData, nlAll ds = true ↔ ∀ p ∈ ds, nl p = true
  | [] => by simp [nlAll]
  | d :: ds => by simp [nlAll, nlAll_iff ds]
theorem Dp.ex (e : Ex H H') (h : Dp K H v p) : Dp K H' v p := dp_mono (fun _ _ => sqL_ex e) (fun _ _ => sqT_ex e) _ _ h
theorem Dp.exn (e : ExN H H') (h : Dp K H v p) : Dp K H' v p := dp_mono (fun _ _ => sqL_exn e) (fun _ _ => sqT_exn e) _ _ h
theorem DpA.ex (e : Ex H H') (h : DpAll K H vs ds) : DpAll K H' vs ds := dpAll_mono (fun _ _ => sqL_ex e) (fun _ _ => sqT_ex e) _ _ h
theorem DpA.exn (e : ExN H H') (h : DpAll K H vs ds) : DpAll K H' vs ds := dpAll_mono (fun _ _ => sqL_exn e) (fun _ _ => sqT_exn e) _ _ h
/-- a tuple where a list changes -/
theorem sqT_enL {xs zs : List V} (hd : H d = some (.lst zs)) (e : EN d H H') (h : SqT K H a xs) : SqT K H' a xs := by
  rcases h with (h | ⟨o, h⟩) | h
  · exact .inl (.inl (e _ _ (fun z => by rw [z, hd] at h; cases h) h fun _ z => by cases z))
  · exact .inl (.inr ⟨o, e _ _ (fun z => by rw [z, hd] at h; cases h) h fun _ z => by cases z⟩)
  · exact .inr h
theorem Dp.en {zs : List V} (hd : H d = some (.lst zs)) (e : EN d H H') (n : nl p = true) (h : Dp K H v p) : Dp K H' v p := dp_nl (fun _ _ => sqT_enL hd e) _ _ n h
theorem DpA.en {zs : List V} (hd : H d = some (.lst zs)) (e : EN d H H') (n : nlAll ds = true) (h : DpAll K H vs ds) : DpAll K H' vs ds := dpAll_nl (fun _ _ => sqT_enL hd e) _ _ n h
theorem Dice.lst {n : Nat} (h : Dice n H d) : ∃ zs, H d = some (.lst zs) := by
  obtain ⟨x, y, z, h, _⟩ := h
  exact ⟨_, h⟩
theorem DpA.length (h : DpAll K H vs ds) : vs.length = ds.length := by
  induction ds generalizing vs with
  | nil => cases h; rfl
  | cons d ds ih => cases h with | cons h k => rw [List.length_cons, List.length_cons, ih k]
theorem DpA.get (h : DpAll K H vs ds) {i : Nat} (e : vs[i]? = some v) : ∃ p, ds[i]? = some p ∧ Dp K H v p := by
  induction ds generalizing vs i with
  | nil => cases h; cases e
  | cons d ds ih =>
    cases h with
    | cons h k =>
      cases i with
      | zero => cases e; exact ⟨_, rfl, h⟩
      | succ i => exact ih k (by simpa using e)
theorem DpA.at (h : DpAll K H vs ds) {i : Nat} (e : ds[i]? = some p) : ∃ v, vs[i]? = some v ∧ Dp K H v p := by
  have hl := DpA.length h
  have li : i < vs.length := by rw [hl]; exact (List.getElem?_eq_some_iff.mp e).1
  obtain ⟨q, e1, e2⟩ := DpA.get h (List.getElem?_eq_getElem li)
  rw [e] at e1
  cases e1
  exact ⟨_, List.getElem?_eq_getElem li, e2⟩
theorem DpA.append {ws : List V} {es : List PyData} (h : DpAll K H vs ds) (k : DpAll K H ws es) : DpAll K H (vs ++ ws) (ds ++ es) := by
  induction ds generalizing vs with
  | nil => cases h; exact k
  | cons d ds ih => cases h with | cons h1 h2 => exact .cons h1 (ih h2)
theorem DpA.snoc (h : DpAll K H vs ds) (k : Dp K H v p) : DpAll K H (vs ++ [v]) (ds ++ [p]) := DpA.append h (.cons k .nil)
theorem DpA.drop (h : DpAll K H vs ds) (n : Nat) : DpAll K H (vs.drop n) (ds.drop n) := by
  induction n generalizing vs ds with
  | zero => exact h
  | succ n ih =>
    cases ds with
    | nil => cases h; exact .nil
    | cons d ds => cases h with | cons h1 h2 => exact ih h2
theorem DpA.take (h : DpAll K H vs ds) (n : Nat) : DpAll K H (vs.take n) (ds.take n) := by
  induction n generalizing vs ds with
  | zero => exact .nil
  | succ n ih =>
    cases ds with
    | nil => cases h; exact .nil
    | cons d ds => cases h with | cons h1 h2 => exact .cons h1 (ih h2)
theorem DpA.strs {xs : List Str} (h : DpAll K H vs (xs.map .str)) : vs = xs.map V.str := by
  induction xs generalizing vs with
  | nil => cases h; rfl
  | cons x xs ih =>
    cases h with
    | cons h1 h2 =>
      cases h1
      rw [ih h2]; rfl
end
/-! ### data compared -/
mutual
theorem eqv_refl : ∀ d : PyData, d.canLay0 = true → PyData.eqv d d = true
  | .none, _ => by simp [PyData.eqv]
  | .bool b, _ => by simp [PyData.eqv]
  | .int i, _ => by simp [PyData.eqv]
  | .str x, _ => by simp [PyData.eqv]
  | .list xs, h => by
    simp only [PyData.eqv]
    exact eqvAll_refl xs (by simpa only [PyData.canLay0] using h)
  | .tuple xs, h => by
    simp only [PyData.eqv]
    exact eqvAll_refl xs (by simpa only [PyData.canLay0] using h)
  | .dict _, h => by simp [PyData.canLay0] at h
theorem eqvAll_refl : ∀ ds : List PyData, PyData.canLayAll0 ds = true → PyData.eqvAll ds ds = true
  | [], _ => by simp [PyData.eqvAll]
  | d :: ds, h => by
    have h' : d.canLay0 = true ∧ PyData.canLayAll0 ds = true := by simpa [PyData.canLayAll0] using h
    simp only [PyData.eqvAll, eqv_refl d h'.1, eqvAll_refl ds h'.2, Bool.and_self]
end
section
variable {K : PySem.W.Frag} {H : Hp} {Q : VK} {a b : Addr} {vs ws : List V} {ds es : List PyData} {x y : Str}
theorem r_leZ (q : Q (.bl (!PySem.W.dataLt (.str y) (.str x))) H) : rCmpA K (fun i j => decide (i ≤ j)) (fun d e => !PySem.W.dataLt e d) (.str x) (.str y) H Q :=
  .inr ⟨.str x, .str y, .str x, .str y, by simp only [PySem.W.alike], (fun e => nomatch e), by simp only [PyData.depth]; decide, q⟩
theorem r_lenZ (h : x.length ≤ sizeLine) (q : Q (.int x.length) H) : rLenA K [V.str x] H Q := ⟨_, x.length, rfl, ⟨h, rfl⟩, q⟩
theorem r_neE {u v : V} {d e : PyData} (h1 : Dp K H u d) (h2 : Dp K H v e) (s1 : SeqAt.shaped d = true) (s2 : SeqAt.shaped e = true) (q : Q (.bl (!PyData.eqv d e)) H) : rNeA K u v H Q := .inr ⟨_, _, h1, h2, s1, s2, q⟩
theorem r_eqE {u v : V} {d e : PyData} (h1 : Dp K H u d) (h2 : Dp K H v e) (s1 : SeqAt.shaped d = true) (s2 : SeqAt.shaped e = true) (q : Q (.bl (PyData.eqv d e)) H) : rEqA K u v H Q := .inr ⟨_, _, h1, h2, s1, s2, q⟩
end
/-! ### texts walked -/
section
variable {σ : St} {H : Hp} {Q : VK} {K : PySem.W.Frag} {tt : TT} {te tl : TE} {vs : List Nat} {R : It → Hp → Prop} {j : Nat}
theorem r_iStr (h : tl σ H fun v H1 => ∃ x, v = .str x ∧ R (Its x) H1) : iStr tl σ H R := h
/-- each sign of a text gives a bool -/
theorem c_strB {z : Str} (f : Nat → Bool) (hz : z.cps.size < 16000000) (hw : ∀ x, wipe ((wipe σ vs).set j (some x)) vs = wipe σ vs)
    (turn : ∀ (c : Nat) H1 (q : VK) (N : Hp → Prop), c ∈ z.cps.toList → Ex H H1 → (∀ H4, Ex H1 H4 → q (.bl (f c)) H4) → tt ((wipe σ vs).set j (some (.str ⟨#[c]⟩))) H1 fun b H4 => if b = true then te ((wipe σ vs).set j (some (.str ⟨#[c]⟩))) H4 q else N H4)
    (done : ∀ L H', H L = none → Ex H H' → H' L = some (.lst ((z.cps.toList.map f).map V.bl)) → Q (.ref L) H') : CQ (gName j) tt te vs σ Q (Its z) H := by
  refine c_fn walk_str (fun i => z.cps.toList[i]?.bind fun c => some (V.bl (f c))) hz (fun _ _ => trivial) (fun i x H1 H2 q N hi e1 y hq hN => ?_) (fun L H' h1 h2 h3 => done L H' h1 h2 ?_)
  · obtain ⟨rfl, c, hc, rfl⟩ := y
    have hc' : z.cps.toList[i]? = some c := by rw [Array.getElem?_toList]; exact hc
    refine ⟨hw _, turn c H2 q N (List.mem_of_getElem? hc') e1 fun H4 e4 => hq _ H4 ?_ e4⟩
    rw [hc']; rfl
  · rw [← Array.length_toList, range_fm] at h3
    rw [h3, List.map_map]
    congr 2
    exact congrFun List.filterMap_eq_map _
/-- a bool of each item's data -/
theorem c_seqD {k : Sk} {a : Addr} {us : List V} {ds : List PyData} (h : k.at K H a us) (hd : DpAll K H us ds) (f : PyData → Bool) (hn : us.length < 16000000) (hw : ∀ x, wipe ((wipe σ vs).set j (some x)) vs = wipe σ vs)
    (turn : ∀ v p H1 (q : VK) (N : Hp → Prop), p ∈ ds → Dp K H1 v p → Ex H H1 → (∀ H4, Ex H1 H4 → q (.bl (f p)) H4) → tt ((wipe σ vs).set j (some v)) H1 fun b H4 => if b = true then te ((wipe σ vs).set j (some v)) H4 q else N H4)
    (done : ∀ L H', H L = none → Ex H H' → H' L = some (.lst ((ds.map f).map V.bl)) → Q (.ref L) H') : sQ K (CQ (gName j) tt te vs σ Q) (.ref a) H := by
  refine s_S h (c_fn walk_S (fun i => ds[i]?.bind fun p => some (V.bl (f p))) hn (fun H' e => k.ex e h) (fun i x H1 H2 q N hi e1 y hq hN => ?_) (fun L H' h1 h2 h3 => done L H' h1 h2 ?_))
  · obtain ⟨rfl, hx⟩ := y
    obtain ⟨p, hp, dp⟩ := DpA.get hd hx
    refine ⟨hw _, turn x p H2 q N (List.mem_of_getElem? hp) (Dp.ex e1 dp) e1 fun H4 e4 => hq _ H4 ?_ e4⟩
    rw [hp]; rfl
  · rw [DpA.length hd, range_fm] at h3
    rw [h3, List.map_map]
    congr 2
    exact congrFun List.filterMap_eq_map _
/-- a bool of each pair of two walks -/
theorem c_zipD {k1 k2 : Sk} {a b : Addr} {us ws : List V} {ds es : List PyData} {l : Nat} (h1 : k1.at K H a us) (h2 : k2.at K H b ws) (d1 : DpAll K H us ds) (d2 : DpAll K H ws es) (f : PyData → PyData → Bool) (hn : us.length < 16000000)
    (hw : ∀ x y, wipe (((wipe σ vs).set j (some x)).set l (some y)) vs = wipe σ vs)
    (turn : ∀ u v p q T H1 (Q1 : VK) (N : Hp → Prop), p ∈ ds → q ∈ es → Dp K H1 u p → Dp K H1 v q → Ex H H1 → H1 T = none → (∀ H4, Ex H1 H4 → Q1 (.bl (f p q)) H4) →
      tt (((wipe σ vs).set j (some u)).set l (some v)) (upd H1 T (.tup [u, v])) fun b H4 => if b = true then te (((wipe σ vs).set j (some u)).set l (some v)) H4 Q1 else N H4)
    (done : ∀ L H', H L = none → Ex H H' → H' L = some (.lst (((ds.zip es).map fun p => f p.1 p.2).map V.bl)) → Q (.ref L) H') : zQ K (CQ (gTup K 2 (gCons (gName j) (gCons (gName l) gNil))) tt te vs σ Q) [.ref a, .ref b] H := by
  have l1 := DpA.length d1
  have l2 := DpA.length d2
  have hz : (ds.zip es).length = min us.length ws.length := by rw [List.length_zip, l1, l2]
  refine z_P h1 h2 (c_fn (walk_P (n := (ds.zip es).length) hz) (fun i => (ds.zip es)[i]?.bind fun z => some (V.bl (f z.1 z.2))) (by omega) (fun H' e => ⟨k1.ex e h1, k2.ex e h2⟩) (fun i x H1 H2 q N hi e1 y hq hN => ?_) (fun L H' h1 h2 h3 => done L H' h1 h2 ?_))
  · obtain ⟨T, u, v, e2, e3, e4, e5, e6⟩ := y
    subst e2 e4
    obtain ⟨p, hp, dp⟩ := DpA.get d1 e5
    obtain ⟨p2, hp2, dp2⟩ := DpA.get d2 e6
    have ez : (ds.zip es)[i]? = some (p, p2) := by
      rw [List.getElem?_zip_eq_some]
      exact ⟨hp, hp2⟩
    exact g_two ⟨hw u v, turn u v p p2 T H1 q N (List.mem_of_getElem? hp) (List.mem_of_getElem? hp2) (Dp.ex e1 dp) (Dp.ex e1 dp2) e1 e3 fun H4 e8 => hq _ H4 (by rw [ez]; rfl) e8⟩
  · rw [range_fm] at h3
    rw [h3, List.map_map]
    congr 2
    exact congrFun List.filterMap_eq_map _
/-- a list of drawn data -/
theorem c_diceD {F : PyData → Prop} (hF : ∀ p, F p → nl p = true) {n N m : Nat} {lo : Int} {d : Addr} (hd : Dice n H d) (hm : m < 16000000) (hw : ∀ x, wipe ((wipe σ vs).set j (some x)) vs = wipe σ vs)
    (turn : ∀ (i : Nat) H1 (q : VK) (M : Hp → Prop), i < m → ExB d H H1 → Dice (n + i * N) H1 d → (∀ v p H4, Dp K H4 v p → F p → ExB d H1 H4 → Dice (n + i * N + N) H4 d → q v H4) →
      tt ((wipe σ vs).set j (some (.int (lo + i)))) H1 fun b H4 => if b = true then te ((wipe σ vs).set j (some (.int (lo + i)))) H4 q else M H4)
    (done : ∀ L H' us ps, H L = none → L ≠ d → ExB d H H' → H' L = some (.lst us) → DpAll K H' us ps → ps.length = m → (∀ p ∈ ps, F p) → Dice (n + m * N) H' d → Q (.ref L) H') : CQ (gName j) tt te vs σ Q (Itr lo m) H := by
  intro L hL
  have ne : L ≠ d := hd.ne hL
  refine lc_it walk_range (fun i H' => ∃ us ps, ExB d H H' ∧ H' L = some (.lst us) ∧ DpAll K H' us ps ∧ ps.length = i ∧ (∀ p ∈ ps, F p) ∧ Dice (n + i * N) H' d) ⟨[], [], ExB.of (Ex.new hL), upd_same, .nil, rfl, (fun x hx => nomatch hx), by rw [Nat.zero_mul]; exact hd.ex (Ex.new hL)⟩ (fun _ _ _ _ => trivial) ?_ ?_
  · rintro i x H1 H2 hi ⟨us, ps, e1, e2, e3, e4, e5, e6⟩ ⟨rfl, rfl⟩
    refine ⟨hw _, turn i H2 _ _ hi e1 e6 fun v p H4 dp fp e7 e8 => ?_⟩
    have hL4 : H4 L = some (.lst us) := e7 _ _ ne e2
    obtain ⟨zs, hz⟩ := e6.lst
    have nps : nlAll ps = true := (nlAll_iff ps).mpr fun p hp => hF p (e5 p hp)
    have all4 : DpAll K H4 us ps := DpA.en hz (EN.b e7) nps e3
    have enL : EN L H4 (upd H4 L (.lst (us ++ [v]))) := fun b o nb hb _ => (upd_ne nb).trans hb
    refine ⟨us, hL4, by rw [DpA.length e3]; exact Nat.lt_trans (by omega : ps.length < 16000000) (by decide), us ++ [v], ps ++ [p], ?_, upd_same, DpA.en hL4 enL (by rw [nlAll_iff]; intro q hq; rcases List.mem_append.mp hq with hq | hq; exact hF q (e5 q hq); rw [List.mem_singleton.mp hq]; exact hF p fp) (DpA.snoc all4 dp), by rw [List.length_append, e4]; rfl, ?_, ?_⟩
    · intro b o hb ho
      have hne : b ≠ L := fun z => by rw [z, hL] at ho; cases ho
      exact (upd_ne hne).trans (e7 _ _ hb (e1 b o hb ho))
    · intro q hq
      rcases List.mem_append.mp hq with hq | hq
      · exact e5 q hq
      · rw [List.mem_singleton.mp hq]; exact fp
    · obtain ⟨x, y, z, h, r1, r2, r3, r4, r5⟩ := e8
      refine ⟨x, y, z, (upd_ne (Ne.symm ne)).trans h, r1, r2, r3, r4, ?_⟩
      rw [Nat.add_mul]; omega
  · rintro H' ⟨us, ps, e1, e2, e3, e4, e5, e6⟩
    exact done L H' us ps hL ne e1 e2 e3 e4 e5 e6
end
/-! ### texts joined, repeated -/
section
variable {X : Cx} {K : PySem.W.Frag}
def rJoin (K : PySem.W.Frag) : V → List V → Hp → VK → Prop := fun x xs H Q => ∃ a p, ∃ ys : List Str, x = .str a ∧ xs = [.ref p] ∧ (SqL K H p (ys.map V.str) ∨ SqT K H p (ys.map V.str)) ∧
      (ys.map (·.length)).sum + ys.length * a.length ≤ 16777216 ∧ Q (.str (Txt.join a ys)) H
theorem k_join {o e : Expr} {to te : TE} {apos pos : Pos} (eK : X.K = K) (ho : PE X o to) (he : PE X e te) (hs : starEach [e] X.env = [(false, eval e X.env)] := by rfl) (hbase : attributeBase o "join" X.env (eval o X.env) = eval o X.env := by rfl) (hline : (apos.endLine == pos.line) = true := by rfl) :
    PE X (.Call (.Attribute o "join" apos) [e] [] pos) (tM1 (rJoin K) to te) := by
  subst eK
  exact pe_join ho he hs hbase hline
theorem r_m1 {r : V → List V → Hp → VK → Prop} {to te : TE} {σ : St} {H : Hp} {Q : VK} (h : to σ H fun x H1 => (∃ a, x = .str a) ∧ te σ H1 fun y H2 => r x [y] H2 Q) : tM1 r to te σ H Q := h
def rMulZ : R2 := fun x y H Q => ∃ (z : Str) (n : Int), x = .str z ∧ y = .int n ∧ 2 ≤ n ∧ n ≤ 1000 ∧ 1 ≤ z.length ∧ z.length ≤ 1000 ∧ Q (.str ⟨(List.replicate n.toNat z.cps).foldl (· ++ ·) #[]⟩) H
theorem op_mulZ : OpR X (binaryOp .Mult) rMulZ := by
  intro pins s σ H x y v u Q I rx ry h
  obtain ⟨z, n, rfl, rfl, h1, h2, h3, h4, q⟩ := h
  obtain ⟨t, rfl⟩ := rx
  obtain ⟨t2, rfl⟩ := ry
  have hb : (z.length : Int) * n ≤ 1000000 := by
    have a1 : (z.length : Int) * n ≤ 1000 * n := Int.mul_le_mul_of_nonneg_right (by omega) (by omega)
    omega
  have hc : z.length * n.toNat ≤ 1000000 := by
    have a1 : z.length * n.toNat ≤ 1000 * n.toNat := Nat.mul_le_mul_right _ h4
    omega
  have big : 1000000 ≤ sizeLine := by decide
  refine PySem.P.mul_str (by rw [decide_eq_false (by omega), decide_eq_false (by omega)]; rfl) (fun _ _ => ?_) (fun _ _ => decide_eq_false (by show ¬ z.length * n.toNat > sizeLine; omega)) ?_
  · refine Int.not_lt.mpr ?_
    rw [Int.le_ediv_iff_mul_le (by omega)]
    omega
  · rw [if_neg (by omega), if_neg (by
      rw [Bool.or_eq_true, beq_iff_eq, beq_iff_eq]
      omega)]
    refine ⟨?_, .str _, H, I.tok _, ⟨_, rfl⟩, q⟩
    exact fits_reps (decide_eq_false (by show ¬ z.length * n.toNat > sizeLine; omega))
end
end PB

/-! PT: keyword calls of defs that know their guards; repr of data; rows of ints compared. -/
namespace PB
open PySem PySem.Spec L2
open PyProof.Rows hiding St
def CalKG (P : Program) (w : World) (K : PySem.W.Frag) (mg : Str → Option Value) (base : Heap) (k : Nat) (x : Str) (ks : List Str) (sp : Sp) (gV : List V → List V) : Prop :=
  ∃ f fd ps g, mg x = some (.ref f) ∧ PySem.W.keepIn K (.ref f) = true ∧ FnG P w K mg base k f fd ps sp ∧ KBn K fd ps 0 ks g (fun _ zs => gV zs)
theorem pe_kw0G {X : Cx} {k j : Nat} {x : Str} {ks : List Str} {sp : Sp} {gV : List V → List V} {E : XK} {p pos : Pos} {kws : List Keyword} {tk : TA} (c : CalKG X.prog X.w X.K X.mg X.base k x ks sp gV) (gd : X.A.guards = some []) (hr : Room j X.A) (hk : k ≤ j) (hx : Passes (L2.CX X.prog X.w) X E) (hkw : PK X kws tk)
    (hg : Gl X x := by rfl) (hall : (backToKw pos (keywordEach kws X.env)).all (·.1.isSome) = true := by rfl) (hks : (backToKw pos (keywordEach kws X.env)).filterMap (·.1) = ks := by rfl) (hdb : (x == ("__debug__" : Str)) = false := by decide)
    (hpl : ((backTo pos (starEach [] X.env)).any (·.1) || (backToKw pos (keywordEach kws X.env)).any (·.1.isNone)) = false := by rfl) : PE X (.Call (.Name x p) [] kws pos) (fun σ H Q => tk σ H fun zs H1 => zs.length = ks.length ∧ sp (gV zs) H1 Q E) := by
  obtain ⟨f, fd, ps, g, h1, h2, F, b⟩ := c
  refine ⟨fun pins s σ H Q I h => wpAny_Call_Name_kw (ld_glob I hg h1 ?_ hdb)⟩
  refine PySem.W.callWith_KW0 (h₀ := X.base) I.ok.mod.kin h2 hall (thn (hkw.run pos pins s σ H _ I h) fun ws s2 ⟨zs, H2, I2, rz, l2, q2⟩ => ⟨I2.kIn, ?_⟩) hpl
  rw [hks]
  refine wpAny_call (codeAny_mono (F.run X.A X.stack s2 H2 ⟨[], ks.zip ws⟩ (g [] ws) (gV zs) Q E gd (hr.mono hk) I2.env0 (b.to s2 [] ws I2.kIn rfl (rz.length.symm.trans l2)) (b.rel .nil rz) q2) fun z s' hq => ?_)
  match z, hq with
  | .error er, hq => exact hx pins σ H2 s2 er s' I2 hq
  | .ok (.ret u), hq => exact I2.after hq
  | .ok .next, hq => exact hq.elim
  | .ok .brk, hq => exact hq.elim
  | .ok .cont, hq => exact hq.elim
section
variable {P : Program} {w : World} {fa : List He.Fa} {fn : List He.DefD} {K : PySem.W.Frag} {mg : Str → Option Value} {base : Heap}
theorem Ct.calKG (C : Ct fa fn K mg base) (i j : Nat) {x : Str} {a : Arguments} {b : List Stmt} {sc : Scope} (hd : fn[i]? = some ⟨(x, none), x, x, a, b, sc, [], []⟩) (hj : fa[j]? = some (.glo x)) {N ps ks : List Str} {k : Nat} {sp : Sp} {g : List Value → List Value} {gV : List V → List V} (S : FnScope N ps sc)
    (hrel : ∀ (zs : List V) (ws : List Value), Vals zs ws → Vals (gV zs) (g ws))
    (hb : ∀ (kV doc pm : Value) (an : Option Addr) (cdv ct : Value) (ws : List Value), ws.length = ks.length → bindArgs (PySem.W.fnOf x x a b sc .none kV doc pm an cdv ct) ⟨[], ks.zip ws⟩ = pure (ps.zip (g ws)))
    (len : ∀ vs H Q E, sp vs H Q E → vs.length = ps.length)
    (hbody : ∀ (f : Addr) (cdv : Value) (A : Around) (outer : List Env) (s : Shared) (H : Hp) (vs : List V) (Q : VK) (E : XK), (A.deeper (envOfC x sc s.heap.objs.size f cdv)).guards = some [] → Room k (A.deeper (envOfC x sc s.heap.objs.size f cdv)) → sp vs H Q E →
      ∃ t, PSs (cxOf (L2.CX P w) P w K mg base N x sc f cdv A outer s H E) b t ∧ t { nx := fun _ H' => Q .non H', rt := Q } (start N vs) H) : CalKG P w K mg base (k + 1) x ks sp gV := by
  obtain ⟨fd, F⟩ := C.says.def_ i hd
  have F0 := F
  obtain ⟨oc, od, dV, kV, doc, pm, an, cdv, ct, osl, rfl, lk, hcd, hD, hK⟩ := F.ex
  have dn : dV = .none := by
    rcases hD with ⟨_, e⟩ | ⟨e, _⟩
    · exact e
    · exact absurd rfl e
  subst dn
  refine ⟨_, _, ps, fun _ ws => g ws, He.glo_ok C.kin C.glob (C.says.fact j hj), F.kp, fnG_of F0 S len fun cdv A outer s H vs Q E hg hr h => hbody _ cdv A outer s H vs Q E hg hr h, ⟨fun s us ws _ l1 l2 => ?_, fun _ r => hrel _ _ r⟩⟩
  obtain rfl := List.length_eq_zero_iff.mp l1
  exact .of_eq (hb kV doc pm an cdv ct ws l2)
end
/-- what can be shown -/
structure Shw (p : PyData) : Prop where
  s1 : p.showable = true
  s2 : p.hasDict = false
  s3 : p.shown.length ≤ sizeLine
  s4 : p.depth ≤ 60
theorem r_reprD {K : PySem.W.Frag} {H : Hp} {v : V} {p : PyData} {xs : List PyData} {Q : VK} (h : Dp K H v p) (e : p = .tuple xs) (s : Shw p) (q : Q (.str p.shown) H) : rRepr K [v] H Q := by
  subst e
  cases h with
  | tup h1 h2 => exact ⟨_, _, rfl, .tup h1 h2, s.s1, s.s2, s.s3, s.s4, q⟩
section
variable {K : PySem.W.Frag} {H : Hp} {Q : VK} {a b : Addr} {ns ms : List Int} {vs ws : List V} {rs ss : List (List Int)}
theorem r_gtTT (h1 : SqT K H a (ns.map V.int)) (h2 : SqT K H b (ms.map V.int)) (q : Q (.bl (decide (ms < ns))) H) : rCmpA K (fun i j => decide (j < i)) (fun d e => PySem.W.dataLt e d) (.ref a) (.ref b) H Q :=
  .inr ⟨_, _, dp_t h1, dp_t h2, by simp only [PySem.W.alike]; exact ali_I ns ms, (fun e => nomatch e), by rw [dep_t, dep_t]; decide, by rw [← lt_T] at q; exact q⟩
theorem canLay_R (rs : List (List Int)) : PyData.canLay0 (.list (rs.map fun r => .tuple (dI r))) = true := by
  simp only [PyData.canLay0]
  exact lay_R rs
theorem r_neRR (h1 : SqL K H a vs) (h2 : SqL K H b ws) (r1 : Rws K H vs rs) (r2 : Rws K H ws rs) (q : Q (.bl false) H) : rNeA K (.ref a) (.ref b) H Q :=
  .inr ⟨_, _, .lst h1 r1.dp, .lst h2 r2.dp, sh_R, sh_R, by rw [eqv_refl _ (canLay_R rs)]; exact q⟩
end
/-- an item by any index -/
theorem r_ixM {K : PySem.W.Frag} {H : Hp} {Q : VK} {a : Addr} {xs : List V} {k : Sk} {i : Int} {v : V} (h : k.at K H a xs) (e : atI xs i = some v) (q : Q v H) : rIxA K (.ref a) (.int i) H Q := by
  cases k with
  | l => exact .inl ⟨a, xs, i, v, rfl, rfl, h, e, q⟩
  | t => exact .inr (.inl ⟨a, xs, i, v, rfl, rfl, h, e, q⟩)
theorem r_cut {t u : TS} {D : Ends} {σ : St} {H : Hp} (Mid : St → Hp → Prop) (h : t { D with nx := Mid } σ H) (k : ∀ σ' H', Mid σ' H' → u D σ' H') : C8.tCut t u D σ H := ⟨Mid, h, k⟩
theorem cut_m1 {xs : List V} : cutV xs none (some (-1)) = xs.take (xs.length - 1) := by
  unfold cutV
  rw [HT.sIx_none, Nat.sub_zero, List.drop_zero]
  congr 1
  show (if (-1 : Int) < 0 then ((-1 : Int) + (xs.length : Int)).toNat else min (-1 : Int).toNat xs.length) = _
  rw [if_pos (by decide)]
  omega
theorem cut_from {xs : List V} {i : Nat} : cutV xs (some (i : Int)) none = xs.drop i := cut_hi
/-- a list of rows, one of each item -/
theorem c_seqR {σ : St} {H : Hp} {Q : VK} {K : PySem.W.Frag} {tt : TT} {te : TE} {vs : List Nat} {j : Nat} {k : Sk} {a : Addr} {us : List V} (h : k.at K H a us) (f : Nat → List Int) (hn : us.length < 16000000) (hw : ∀ x, wipe ((wipe σ vs).set j (some x)) vs = wipe σ vs)
    (turn : ∀ (i : Nat) v H1 (q : VK) (N : Hp → Prop), us[i]? = some v → Ex H H1 → (∀ w H4, Ex H1 H4 → Row K H4 w (f i) → q w H4) → tt ((wipe σ vs).set j (some v)) H1 fun b H4 => if b = true then te ((wipe σ vs).set j (some v)) H4 q else N H4)
    (done : ∀ L H' ws, H L = none → Ex H H' → H' L = some (.lst ws) → Rws K H' ws ((List.range us.length).map f) → Q (.ref L) H') : sQ K (CQ (gName j) tt te vs σ Q) (.ref a) H := by
  refine s_S h (c_it walk_S hn (fun H' e => k.ex e h) (fun i acc H' => Rws K H' acc ((List.range i).map f)) (fun _ _ => .nil) (fun L i acc H1 u u' hL _ p => p.put hL) ?_ ?_)
  · rintro i x acc H1 H2 q N hi e1 p ⟨rfl, hx⟩ hq hN
    refine ⟨hw x, turn i x H2 q N hx e1 fun w H4 e4 row => hq w H4 e4 ?_⟩
    rw [List.range_succ, List.map_append]
    exact (p.ex e4).snoc row
  · intro L acc H' h1 h2 h3 _ h5
    exact done L H' acc h1 h2 h3 h5
end PB

/-! PW: own classes: methods, instances made, properties, fields, == and != by an own __eq__. -/
namespace PB
open PySem PySem.Spec L2
open PyProof.Rows hiding St
/-- the method m of C keeps this promise -/
def MetE (P : Program) (w : World) (K : PySem.W.Frag) (mg : Str → Option Value) (base : Heap) (k : Nat) (C : Addr) (m : Str) (ps : List Str) (sp : Sp) : Prop :=
  Cls K C ∧ ∃ g fd, Meth K C m g ∧ FnOk P w K mg base (L2.CX P w) k g fd ps sp ∧ Binds K fd ps []
/-- by a keyword alone (behind the object) -/
def MetK (P : Program) (w : World) (K : PySem.W.Frag) (mg : Str → Option Value) (base : Heap) (k : Nat) (C : Addr) (m : Str) (ks : List Str) (sp : Sp) (gV : List V → List V → List V) : Prop :=
  Cls K C ∧ ∃ f fd ps g, Meth K C m f ∧ FnOk P w K mg base (L2.CX P w) k f fd ps sp ∧ KBn K fd ps 1 ks g gV
/-- C made -/
def MakE (P : Program) (w : World) (K : PySem.W.Frag) (mg : Str → Option Value) (base : Heap) (k : Nat) (x : Str) (C : Addr) (ps : List Str) (sp : Sp) : Prop :=
  mg x = some (.ref C) ∧ ∃ f fd, Mk K C f ∧ FnOk P w K mg base (L2.CX P w) k f fd ps sp ∧ Binds K fd ps []
def MakK (P : Program) (w : World) (K : PySem.W.Frag) (mg : Str → Option Value) (base : Heap) (k : Nat) (x : Str) (C : Addr) (ks : List Str) (sp : Sp) (gV : List V → List V → List V) : Prop :=
  mg x = some (.ref C) ∧ ∃ f fd ps g, Mk K C f ∧ FnOk P w K mg base (L2.CX P w) k f fd ps sp ∧ KBn K fd ps 1 ks g gV
def PrpE (P : Program) (w : World) (K : PySem.W.Frag) (mg : Str → Option Value) (base : Heap) (k : Nat) (C : Addr) (m : Str) (ps : List Str) (sp : Sp) : Prop :=
  Cls K C ∧ ∃ p g fd, PropOf K C m p g ∧ FnOk P w K mg base (L2.CX P w) k g fd ps sp ∧ Binds K fd ps []
section
variable {X : Cx} {k j : Nat} {C : Addr} {m x : Str} {ps ks : List Str} {sp : Sp} {gV : List V → List V → List V} {E : XK} {o e : Expr} {es : List Expr} {to : TE} {t tk : TA} {apos pos p : Pos} {kws : List Keyword}
theorem pe_me {pl : Sem Bool} (c : MetE X.prog X.w X.K X.mg X.base k C m ps sp) (hr : Room j X.A) (hk : k ≤ j) (hx : Passes (L2.CX X.prog X.w) X E) (ho : PE X o to) (ha : PA X (e :: es) t)
    (hst : starEach (e :: es) X.env = (false, eval e X.env) :: starEach es X.env := by rfl) (hpl : (backTo pos (starEach es X.env)).any (·.1) = false := by rfl)
    (ht : eval (.Call (.Attribute o m apos) (e :: es) [] pos) X.env = (do
      let ov ← eval o X.env
      standAt apos.atName
      let (f, first) ← holding [ov] (getMethod ov m pl)
      callWith pos f first (backTo pos (starEach (e :: es) X.env)) (backToKw pos (keywordEach [] X.env))) := by rfl) : PE X (.Call (.Attribute o m apos) (e :: es) [] pos) (tMeth C m sp [] E to t) := by
  obtain ⟨cl, g, fd, M, F, b⟩ := c
  exact pe_meth ho cl M F (hr.mono hk) b .nil hx ha hst hpl ht
theorem pe_me0 {pl : Sem Bool} (c : MetE X.prog X.w X.K X.mg X.base k C m ps sp) (hr : Room j X.A) (hk : k ≤ j) (hx : Passes (L2.CX X.prog X.w) X E) (ho : PE X o to)
    (ht : eval (.Call (.Attribute o m apos) [] [] pos) X.env = (do
      let ov ← eval o X.env
      standAt apos.atName
      let (f, first) ← holding [ov] (getMethod ov m pl)
      callWith pos f first (backTo pos (starEach [] X.env)) (backToKw pos (keywordEach [] X.env))) := by rfl) : PE X (.Call (.Attribute o m apos) [] [] pos) (tMeth C m sp [] E to tNil) := by
  obtain ⟨cl, g, fd, M, F, b⟩ := c
  exact pe_meth0 ho cl M F (hr.mono hk) b .nil hx ht
/-- o.m(k = v, ..): the object, the keywords' values -/
def tMethK (C : Addr) (m : Str) (n : Nat) (sp : Sp) (gV : List V → List V → List V) (E : XK) (to : TE) (tk : TA) : TE := fun σ H Q => to σ H fun x H1 => ∃ a dx fs, x = .ref a ∧ H1 a = some (.ins C dx fs) ∧ fs.lookup m = none ∧ tk σ H1 fun zs H2 => zs.length = n ∧ sp (gV [x] zs) H2 Q E
theorem pe_meK {pl : Sem Bool} (c : MetK X.prog X.w X.K X.mg X.base k C m ks sp gV) (hr : Room j X.A) (hk : k ≤ j) (hx : Passes (L2.CX X.prog X.w) X E) (ho : PE X o to) (hkw : PK X kws tk)
    (hall : (backToKw pos (keywordEach kws X.env)).all (·.1.isSome) = true := by rfl) (hks : (backToKw pos (keywordEach kws X.env)).filterMap (·.1) = ks := by rfl)
    (hpl : ((backTo pos (starEach [] X.env)).any (·.1) || (backToKw pos (keywordEach kws X.env)).any (·.1.isNone)) = false := by rfl)
    (ht : eval (.Call (.Attribute o m apos) [] kws pos) X.env = (do
      let ov ← eval o X.env
      standAt apos.atName
      let (f, first) ← holding [ov] (getMethod ov m pl)
      callWith pos f first (backTo pos (starEach [] X.env)) (backToKw pos (keywordEach kws X.env))) := by rfl) : PE X (.Call (.Attribute o m apos) [] kws pos) (tMethK C m ks.length sp gV E to tk) := by
  obtain ⟨cl, f, fd, ps, g, M, F, b⟩ := c
  refine ⟨fun pins s σ H Q I h => ?_⟩
  refine PySem.W.methodCall_KW (pl := pl) (thn (ho.run pins s σ H _ I h) fun u s1 ⟨x, H1, I1, rx, a, dx, fs, ex, ea, l, q⟩ => ?_) ht
  subst ex
  obtain rfl : u = Value.ref a := rx
  refine getmeth_ok I1 ea cl M l ?_
  refine PySem.W.callWith_KW0 (first := [.ref a]) (h₀ := X.base) I.ok.mod.kin M.kp hall (thn (hkw.run pos pins s1 σ H1 _ I1 q) fun ws s2 ⟨zs, H2, I2, rz, l2, q2⟩ => ⟨I2.kIn, ?_⟩) hpl
  rw [hks]
  exact run_fnN (us := [.ref a]) (vs := [.ref a]) F (hr.mono hk) b hx I2 (.cons rfl .nil) rz rfl l2 q2
theorem pe_mkE (c : MakE X.prog X.w X.K X.mg X.base k x C ps sp) (hr : Room j X.A) (hk : k + 1 ≤ j) (hx : Passes (L2.CX X.prog X.w) X E) (ha : PA X (e :: es) t) (hg : Gl X x := by rfl)
    (hdb : (x == ("__debug__" : Str)) = false := by decide) (he : starEach (e :: es) X.env = (false, eval e X.env) :: starEach es X.env := by rfl) (hpl : (backTo pos (starEach es X.env)).any (·.1) = false := by rfl) :
    PE X (.Call (.Name x p) (e :: es) [] pos) (tMake C sp [] E t) := by
  obtain ⟨hm, f, fd, M, F, b⟩ := c
  exact pe_make M F (hr.mono hk) hg hm b .nil hx ha hdb he hpl
theorem pe_mkK (c : MakK X.prog X.w X.K X.mg X.base k x C ks sp gV) (hr : Room j X.A) (hk : k + 1 ≤ j) (hx : Passes (L2.CX X.prog X.w) X E) (hkw : PK X kws tk) (hg : Gl X x := by rfl)
    (hall : (backToKw pos (keywordEach kws X.env)).all (·.1.isSome) = true := by rfl) (hks : (backToKw pos (keywordEach kws X.env)).filterMap (·.1) = ks := by rfl) (hdb : (x == ("__debug__" : Str)) = false := by decide)
    (hpl : ((backTo pos (starEach [] X.env)).any (·.1) || (backToKw pos (keywordEach kws X.env)).any (·.1.isNone)) = false := by rfl) : PE X (.Call (.Name x p) [] kws pos) (tMakeK C 0 ks.length sp gV E tNil tk) := by
  obtain ⟨hm, f, fd, ps, g, M, F, b⟩ := c
  exact pe_makeK0 M F (hr.mono hk) hg hm b hx hkw hall hks hdb hpl
theorem pe_pr (c : PrpE X.prog X.w X.K X.mg X.base k C m ps sp) (hr : Room j X.A) (hk : k + 1 ≤ j) (hx : Passes (L2.CX X.prog X.w) X.nox E) (ho : PE X e to) (hab : attributeBase e m X.env (eval e X.env) = eval e X.env := by rfl) : PE X (.Attribute e m pos) (tProp C sp [] E to) := by
  obtain ⟨cl, q, g, fd, M, F, b⟩ := c
  exact pe_prop ho cl M F (hr.mono hk) b .nil hx hab
end
section
variable {X : Cx} {K : PySem.W.Frag} {e o value : Expr} {f : Str} {pos pos' tpos : Pos} {ta tv : TE}
theorem k_fld (eK : X.K = K) (he : PE X e ta) (hb : attributeBase e f X.env (eval e X.env) = eval e X.env := by rfl) : PE X (.Attribute e f pos) (tFld K ta f) := by
  subst eK
  exact pe_fld he hb
theorem k_sfld (eK : X.K = K) (ha : PE X o ta) (hv : PE X value tv) (hs : swapsWith value (some (.Attribute o f pos')) pos.line X.env = pure false := by rfl) : PS X (.Assign [.Attribute o f pos'] value pos) (sFld K ta tv f) := by
  subst eK
  exact ps_fld ha hv hs
theorem k_fldaug {op : Operator} {rd : V → V → Hp → VK → Prop} (eK : X.K = K) (ha : PE X o ta) (hv : PE X value tv) (hop : InOp X op rd) : PS X (.AugAssign (.Attribute o f tpos) op value pos) (sFldAug K ta tv rd f) := by
  subst eK
  exact ps_fldaug ha hv hop
end
/-! readings -/
section
variable {K : PySem.W.Frag} {σ : St} {H : Hp} {Q : VK} {D : Ends} {ta to tv : TE} {t tk : TA} {a C dx : Addr} {fs : List (Str × V)} {f m : Str} {v : V} {sp : Sp} {dvs : List V} {E : XK} {n : Nat} {gV : List V → List V → List V}
theorem r_fldS (h : ta σ H fun x H1 => ∃ a C dx fs v, x = .ref a ∧ H1 a = some (.ins C dx fs) ∧ Cls K C ∧ NoAttr K C f ∧ fs.lookup f = some v ∧ Q v H1) : tFld K ta f σ H Q := h
theorem r_sfld (h : tv σ H fun y H1 => ta σ H1 fun x H2 => ∃ a C dx fs, x = .ref a ∧ H2 a = some (.ins C dx fs) ∧ Cls K C ∧ NoAttr K C f ∧ fs.length < 1000 ∧ D.nx σ (upd H2 a (.ins C dx (putF f y fs)))) : sFld K ta tv f D σ H := h
theorem r_fldaug {rd : V → V → Hp → VK → Prop} (h : ta σ H fun x H1 => ∃ a C dx fs v, x = .ref a ∧ H1 a = some (.ins C dx fs) ∧ Cls K C ∧ NoAttr K C f ∧ fs.lookup f = some v ∧
  tv σ H1 fun y H2 => rd v y H2 fun z H3 => ∃ dx' fs', H3 a = some (.ins C dx' fs') ∧ fs'.length < 1000 ∧ D.nx σ (upd H3 a (.ins C dx' (putF f z fs')))) : sFldAug K ta tv rd f D σ H := h
theorem r_meth (h : to σ H fun x H1 => ∃ a dx fs, x = .ref a ∧ H1 a = some (.ins C dx fs) ∧ fs.lookup m = none ∧ t σ H1 fun vs H2 => sp (x :: vs) H2 Q E) : tMeth C m sp [] E to t σ H Q := by
  unfold tMeth
  simpa only [List.append_nil] using h
theorem r_methK (h : to σ H fun x H1 => ∃ a dx fs, x = .ref a ∧ H1 a = some (.ins C dx fs) ∧ fs.lookup m = none ∧ tk σ H1 fun zs H2 => zs.length = n ∧ sp (gV [x] zs) H2 Q E) : tMethK C m n sp gV E to tk σ H Q := h
theorem r_make (h : t σ H fun vs H1 => ∀ x dx, H1 x = none → H1 dx = none → dx ≠ x → sp (.ref x :: vs) (upd (upd H1 dx (.own x)) x (.ins C dx [])) (fun v H2 => v = .non ∧ Q (.ref x) H2) E) : tMake C sp [] E t σ H Q := by
  unfold tMake
  simpa only [List.append_nil] using h
theorem r_makeK (h : t σ H fun vs H1 => tk σ H1 fun zs H2 => vs.length = 0 ∧ zs.length = n ∧ ∀ x dx, H2 x = none → H2 dx = none → dx ≠ x → sp (gV (.ref x :: vs) zs) (upd (upd H2 dx (.own x)) x (.ins C dx [])) (fun v H3 => v = .non ∧ Q (.ref x) H3) E) : tMakeK C 0 n sp gV E t tk σ H Q := h
theorem r_prop (h : to σ H fun x H1 => ∃ a dx fs, x = .ref a ∧ H1 a = some (.ins C dx fs) ∧ sp [.ref a] H1 Q E) : tProp C sp [] E to σ H Q := h
end
/-! ### what the top has left -/
section
variable {P : Program} {w : World} {fa : List He.Fa} {fn : List He.DefD} {K : PySem.W.Frag} {mg : Str → Option Value} {base : Heap}
theorem Ct.met (C : Ct fa fn K mg base) (i j c : Nat) {x m qual : Str} {a : Arguments} {b : List Stmt} {sc : Scope} (hd : fn[i]? = some ⟨(x, some m), m, qual, a, b, sc, [], []⟩) (hj : fa[j]? = some (.meth x m)) (hc : fa[c]? = some (.cls x)) {N ps : List Str} {k : Nat} {sp : Sp} (S : FnScope N ps sc)
    (hb : ∀ (kV doc pm : Value) (an : Option Addr) (cdv ct : Value) (us : List Value), us.length = ps.length → bindArgs (PySem.W.fnOf m qual a b sc .none kV doc pm an cdv ct) ⟨us, []⟩ = pure (ps.zip us))
    (len : ∀ vs H Q E, sp vs H Q E → vs.length = ps.length)
    (hbody : ∀ (f : Addr) (cdv : Value) (A : Around) (outer : List Env) (s : Shared) (H : Hp) (vs : List V) (Q : VK) (E : XK), Room k (A.deeper (envOfC qual sc s.heap.objs.size f cdv)) → sp vs H Q E →
      ∃ t, PSs (cxOf (L2.CX P w) P w K mg base N qual sc f cdv A outer s H E) b t ∧ t { nx := fun _ H' => Q .non H', rt := Q } (start N vs) H) : MetE P w K mg base (k + 1) (He.ga K x) m ps sp := by
  obtain ⟨fd, F⟩ := C.says.def_ i hd
  exact ⟨He.cls_ok (C.says.fact c hc), _, fd, He.meth_ok (C.says.fact j hj), FunD.ok F S len fun cdv A outer s H vs Q E hr h => hbody _ cdv A outer s H vs Q E hr h, FunD.bindsN F hb⟩
theorem Ct.mak (C : Ct fa fn K mg base) (i j g : Nat) {x qual : Str} {a : Arguments} {b : List Stmt} {sc : Scope} (hd : fn[i]? = some ⟨(x, some "__init__"), "__init__", qual, a, b, sc, [], []⟩) (hj : fa[j]? = some (.mkr x)) (hg : fa[g]? = some (.glo x)) {N ps : List Str} {k : Nat} {sp : Sp} (S : FnScope N ps sc)
    (hb : ∀ (kV doc pm : Value) (an : Option Addr) (cdv ct : Value) (us : List Value), us.length = ps.length → bindArgs (PySem.W.fnOf "__init__" qual a b sc .none kV doc pm an cdv ct) ⟨us, []⟩ = pure (ps.zip us))
    (len : ∀ vs H Q E, sp vs H Q E → vs.length = ps.length)
    (hbody : ∀ (f : Addr) (cdv : Value) (A : Around) (outer : List Env) (s : Shared) (H : Hp) (vs : List V) (Q : VK) (E : XK), Room k (A.deeper (envOfC qual sc s.heap.objs.size f cdv)) → sp vs H Q E →
      ∃ t, PSs (cxOf (L2.CX P w) P w K mg base N qual sc f cdv A outer s H E) b t ∧ t { nx := fun _ H' => Q .non H', rt := Q } (start N vs) H) : MakE P w K mg base (k + 1) x (He.ga K x) ps sp := by
  obtain ⟨fd, F⟩ := C.says.def_ i hd
  exact ⟨He.glo_ok C.kin C.glob (C.says.fact g hg), _, fd, He.mkr_ok (C.says.fact j hj), FunD.ok F S len fun cdv A outer s H vs Q E hr h => hbody _ cdv A outer s H vs Q E hr h, FunD.bindsN F hb⟩
end
end PB

/-! PQ: a head's facts with the getters of properties; == and != by an own __eq__. -/
namespace PB
open PySem PySem.Spec L2
open PyProof.Rows hiding St
structure PrpD where
  x : Str
  m : Str
  params : Arguments
  body : List Stmt
  scope : Scope
def prpO (K : PySem.W.Frag) (x m : Str) : Addr := He.ma K (He.ga K x) m
def prpA (K : PySem.W.Frag) (x m : Str) : Addr := match PySem.W.recIn K (prpO K x m) "property" with
  | some (.ref g :: _) => g
  | _ => 0
def prpW (K : PySem.W.Frag) (d : PrpD) : He.FnV := match K.lookup (prpA K d.x d.m) with
  | some ⟨_, _, .func fd, _⟩ => some (fd.name, fd.qualname, fd.params, fd.body, fd.scope, fd.globals, fd.closure, fd.defaults, fd.builtins)
  | _ => none
def PrpD.val (d : PrpD) : He.FnV := some (d.m, d.x ++ "." ++ d.m, d.params, .stmts d.body, d.scope, mainGlobals, [], .none, builtinsNs)
/-- all that is asked of K for such a property -/
def prpB (K : PySem.W.Frag) (d : PrpD) : Bool :=
  eqS (PySem.W.findIn K (.ref (clsA K d.x)) d.m) (some (some (.ref (prpO K d.x d.m)))) && (eqS (PySem.W.specialIn K (.ref (prpO K d.x d.m)) "__get__") (some (some (.builtin "property.__get__"))) && (decide (PySem.W.takesIn K (.ref (prpO K d.x d.m)) = some true) &&
  ((match PySem.W.recIn K (prpO K d.x d.m) "property" with
    | some (.ref _ :: _) => true
    | _ => false) && (PySem.W.keepIn K (.ref (prpA K d.x d.m)) && (match K.lookup (prpA K d.x d.m) with
    | some ⟨_, _, .func fd, _⟩ => PySem.W.codeIn K fd.code (d.x ++ "." ++ d.m)
    | _ => false)))))
theorem prp_of {K : PySem.W.Frag} {d : PrpD} (e : prpW K d = d.val) (h : prpB K d = true) : PropOf K (clsA K d.x) d.m (prpO K d.x d.m) (prpA K d.x d.m) ∧ ∃ fd, FunD K d.m (d.x ++ "." ++ d.m) d.params d.body d.scope [] [] (prpA K d.x d.m) fd := by
  unfold prpB at h
  simp only [Bool.and_eq_true, eqS, decide_eq_true_eq] at h
  obtain ⟨h1, h2, h3, h4, h5, h6⟩ := h
  refine ⟨⟨h1, h2, h3, ?_⟩, ?_⟩
  · split at h4
    · rename_i g rest hr
      refine ⟨rest, ?_⟩
      rw [hr]
      unfold prpA
      rw [hr]
    · cases h4
  · unfold prpW at e
    split at e
    · rename_i oc od fd osl lk
      rw [lk] at h6
      obtain ⟨n1, n2, n3, n4, n5, n6, n7, n8, n9, n10, n11, n12, n13, n14, n15⟩ := fd
      unfold PrpD.val at e
      simp only [Option.some.injEq, Prod.mk.injEq] at e
      obtain ⟨e1, e2, e3, e4, e5, e6, e7, e8, e9⟩ := e
      subst e1 e2 e3 e4 e5 e6 e7 e8 e9
      exact ⟨_, ⟨_, _, _, _, _, _, _, _, _, _, rfl, lk, h6, .inl ⟨rfl, rfl⟩, .inl rfl⟩, h5⟩
    · cases e
/-! ### the Hook -/
abbrev AlJ : Type := AlI × List He.FnV
def obsJ (n : Nat) (fa : List He.Fa) (fn : List He.DefD) (ts : List He.Tab) (tf : List He.Defn) (is : List IniD) (ps : List PrpD) (ex : PySem.W.Frag → Bool) (g : Addr → Option Obj) : AlJ := (obsI n fa fn ts tf is ex g, ps.map fun d => prpW (He.frT g (asI g n)) d)
def valJ (fn : List He.DefD) (ts : List He.Tab) (is : List IniD) (ps : List PrpD) (w : World) : AlJ := (valI fn ts is w, ps.map PrpD.val)
structure SaysJ (fa : List He.Fa) (fn : List He.DefD) (ts : List He.Tab) (tf : List He.Defn) (is : List IniD) (ps : List PrpD) (ex : PySem.W.Frag → Bool) (w : World) (h : Heap) (K : PySem.W.Frag) : Prop where
  i : SaysI fa fn ts tf is ex w h K
  prp : (ps.map fun d => prpW K d) = ps.map PrpD.val
def hookJ (n : Nat) (fa : List He.Fa) (fn : List He.DefD) (ts : List He.Tab) (tf : List He.Defn) (is : List IniD) (ps : List PrpD) (ex : PySem.W.Frag → Bool) : PySem.W.Hook where
  α := AlJ
  obs := fun s => obsJ n fa fn ts tf is ps ex s.heap.get?
  val := fun w => valJ fn ts is ps w
  says := fun w h => ∃ K : PySem.W.Frag, K.In h ∧ SaysJ fa fn ts tf is ps ex w h K
  of := fun _ _ e => ⟨_, He.frT_in, ⟨saysI_of (congrArg (fun z : AlJ => z.1) e), congrArg (fun z : AlJ => z.2) e⟩⟩
  keeps := fun _ _ _ ⟨K, hK, ⟨c, d⟩⟩ k => ⟨K, PySem.W.Frag.In.keeps hK k, ⟨⟨⟨c.x.t, c.x.more, c.x.hd, c.x.out, fun p hp => k _ _ (c.x.empty p hp)⟩, c.ini⟩, d⟩⟩
theorem obsJ_eq {n : Nat} {fa : List He.Fa} {fn : List He.DefD} {ts : List He.Tab} {tf : List He.Defn} {is : List IniD} {ps : List PrpD} {ex : PySem.W.Frag → Bool} {g : Addr → Option Obj} {s : Shared} (h : ∀ a, g a = s.heap.get? a) : obsJ n fa fn ts tf is ps ex g = (hookJ n fa fn ts tf is ps ex).obs s := by
  have e : g = s.heap.get? := funext h
  rw [e]; rfl
theorem SaysJ.prpF {fa : List He.Fa} {fn : List He.DefD} {ts : List He.Tab} {tf : List He.Defn} {is : List IniD} {ps : List PrpD} {ex : PySem.W.Frag → Bool} {w : World} {h : Heap} {K : PySem.W.Frag} (c : SaysJ fa fn ts tf is ps ex w h K) (hex : ∀ K d, ex K = true → d ∈ ps → prpB K d = true) (i : Nat) {d : PrpD} (hd : ps[i]? = some d := by rfl) :
    PropOf K (clsA K d.x) d.m (prpO K d.x d.m) (prpA K d.x d.m) ∧ ∃ fd, FunD K d.m (d.x ++ "." ++ d.m) d.params d.body d.scope [] [] (prpA K d.x d.m) fd := by
  have e2 : (ps.map fun d => prpW K d)[i]? = (ps.map PrpD.val)[i]? := by rw [c.prp]
  rw [List.getElem?_map, List.getElem?_map, hd] at e2
  exact prp_of (Option.some.inj e2) (hex K d c.i.x.more (List.mem_of_getElem? hd))
/-! ### == and != by an own __eq__ -/
section
open PySem.W PySem.Calls
variable {prog : Program} {w : World} {A : Around} {E : Value → Shared → Prop} {s : Shared} {K : PySem.W.Frag} {x C f : Addr} {ox : Obj} {od : Option Obj} {b tb : Value}
theorem ifBound_B {M : Model} {name : Str} {id : String} {args : List Value} {Q : Option Value → Shared → Prop} (X : K.In s.heap) (I : InstAt s.heap x ox C od) (hs : findIn K (.ref C) name = some (some (.builtin id)))
    (hb : ∀ self, bindSpecial (.builtin id) self = pure (.builtin id, [self])) (h : wpAny M A (call (.builtin id) (.ref x :: args)) (fun v => Q (some v)) E s) : wpAny M A (callSpecialIfBound? (.ref x) name args) Q E s := by
  simp only [callSpecialIfBound?, bindSpecialIfBound?]
  refine wpAny_holding (wpAny_bind (wpAny_bind (wpAny_bind (I.type.here ((looks_findIn X hs).here ?_)))))
  refine wpAny_bind (wpAny_askSetting (wpAny_ite ?_))
  have fin : wpAny M A (call (.builtin id) ([.ref x] ++ args) >>= fun v => pure (some v)) Q E s := wpAny_bind (wpAny_mono h (fun v s' h' => wpAny_pure h') fun _ _ h' => h')
  split
  · exact wpAny_bind ((Looks.of_pure (hb _)).here (wpAny_pure (by exact fin)))
  · exact wpAny_tryCatch (wpAny_bind ((Looks.of_pure (hb _)).here (wpAny_pure (by exact fin))))
theorem obj_ne {Q : Value → Shared → Prop} (hu : A.in1.units < cLine) (X : K.In s.heap) (I : InstAt s.heap x ox C od) (hm : mroIn K C (.type "object") = some true) (he : findIn K (.ref C) "__eq__" = some (some (.ref f))) (hf : isFn K (.ref f) = true)
    (h : wpAny (model prog w) A.in1 (call (.ref f) [.ref x, b]) (fun v s' => ∃ r, v = .bool r ∧ Q (.bool (!r)) s') E s) : wpAny (model prog w) A (call (.builtin "object.__ne__") [.ref x, b]) Q E s := by
  refine wpAny_call (codeAny_call_builtin PySem.F.slot_object_ne.plain PySem.F.entry_object_ne (check_slot (i := "object.__ne__") (owner := "object") (n := "__ne__") (by decide +kernel) (by decide +kernel) (I.type.andThen (looks_mroIn X hm)) (PySem.F.args_object_ne_2 _ _) ?_))
  unfold Builtin.«object.__ne__»
  refine wpAny_bind (m := slotArgs "__ne__" 1 _) (wpAny_pure ?_)
  refine wpAny_bind (m := cRoomFor _ _) (wpAny_cRoomFor hu ?_)
  refine wpAny_bind (m := callSpecialIfBound? (.ref x) (Str.ofString "__eq__") _) (ifBound_K X I he hf (wpAny_mono h (fun r s' hq => ?_) fun _ _ y => y))
  obtain ⟨r, rfl, hq⟩ := hq
  exact wpAny_bind (wpAny_truthy_bool (wpAny_pure hq))
theorem ne_K {Q : Value → Shared → Prop} (hu : A.units < cLine) (hu1 : A.in1.units < cLine) (X : K.In s.heap) (I : InstAt s.heap x ox C od) (hb : Looks (model prog w) s.heap (typeOf b) tb) (hn : notFirst K C tb = true) (hm : mroIn K C (.type "object") = some true)
    (hs : findIn K (.ref C) "__ne__" = some (some (.builtin "object.__ne__"))) (he : findIn K (.ref C) "__eq__" = some (some (.ref f))) (hf : isFn K (.ref f) = true)
    (h : wpAny (model prog w) A.in1 (call (.ref f) [.ref x, b]) (fun v s' => ∃ r, v = .bool r ∧ Q (.bool (!r)) s') E s) : wpAny (model prog w) A (richCompare .NotEq (.ref x) b) Q E s := by
  have one : wpAny (model prog w) A (tryCompare (.ref x) "__ne__" b) (fun r s' => ∃ v, r = some v ∧ Q v s') E s := by
    unfold tryCompare
    refine wpAny_bind (ifBound_B X I hs PySem.F.slot_object_ne.bind (obj_ne hu1 X I hm he hf (wpAny_mono h (fun v s' hv => ?_) fun _ _ e => e)))
    obtain ⟨r, rfl, hv⟩ := hv
    exact ⟨r, rfl, wpAny_pure ⟨_, rfl, hv⟩⟩
  unfold richCompare
  simp only [oneThing_ref]
  refine wpAny_holding (wpAny_bind (wpAny_cRoomFor hu ?_))
  refine wpAny_bind (I.type.here (wpAny_bind (hb.here ?_)))
  split
  · rename_i q
    have e : subIn K tb (.ref C) = some false := by
      rcases Bool.or_eq_true_iff.mp hn with e | e
      · rw [beq_iff_eq.mp e] at q; simp at q
      · exact beq_iff_eq.mp e
    refine wpAny_bind ((looks_subIn X e).here ?_)
    simp only [Bool.false_eq_true, if_false]
    refine wpAny_bind (wpAny_mono one (fun r s' z => ?_) fun _ _ e => e)
    obtain ⟨v, rfl, hq⟩ := z
    exact wpAny_pure hq
  · refine wpAny_bind (wpAny_pure ?_)
    simp only [Bool.false_eq_true, if_false]
    refine wpAny_bind (wpAny_mono one (fun r s' z => ?_) fun _ _ e => e)
    obtain ⟨v, rfl, hq⟩ := z
    exact wpAny_pure hq
end
/-- two instances of C compared by its own __eq__ -/
def rOwn (C : Addr) (neg : Bool) (sp : Sp) (E : XK) : R2 := fun x y H Q => ∃ a dx fs b dy gs, x = .ref a ∧ y = .ref b ∧ H a = some (.ins C dx fs) ∧ H b = some (.ins C dy gs) ∧ sp [.ref a, .ref b] H (fun v H' => ∃ r, v = .bl r ∧ Q (.bl (if neg then !r else r)) H') E
section
variable {X : Cx} {k j : Nat} {C : Addr} {ps : List Str} {sp : Sp} {E : XK}
theorem op_ownEq (c : MetE X.prog X.w X.K X.mg X.base k C "__eq__" ps sp) (hr : Room j X.A) (hk : k ≤ j) (hx : Passes (L2.CX X.prog X.w) X E) : OpR X (compareOp .Eq) (rOwn C false sp E) := by
  intro pins s σ H x y v u Q I rx ry h
  obtain ⟨a, dx, fs, b, dy, gs, rfl, rfl, ha, hb', hsp⟩ := h
  obtain ⟨cl, f, fd, M, F, hb⟩ := c
  cases rx
  cases ry
  obtain ⟨mA, J, _⟩ := ins_get I.hok ha
  obtain ⟨mB, J', _⟩ := ins_get I.hok hb'
  obtain ⟨od, J, _⟩ := J.look
  obtain ⟨od', J', _⟩ := J'.look
  obtain ⟨m, hF⟩ := I.fr
  have hr := hr.mono hk
  refine PySem.W.cmp_K (op := .Eq) (tb := .ref C) hr.units0 hF I.ok.mod.kin J J'.type (by simp [PySem.W.notFirst]) M.at_ M.fn ?_
  have hl := F.len _ _ _ _ hsp
  have r2 : Vals [V.ref a, V.ref b] [Value.ref a, Value.ref b] := .cons rfl (.cons rfl .nil)
  refine wpAny_call (codeAny_mono (F.run X.A X.stack s H ⟨[.ref a, .ref b], []⟩ [.ref a, .ref b] [.ref a, .ref b] _ E hr I.env0 (by
    have := hb s [.ref a, .ref b] I.kIn (by simpa using hl)
    simpa using this) r2 hsp) fun r s' hq => ?_)
  cases r with
  | error e => exact hx pins σ H s e s' I hq
  | ok fl =>
    cases fl with
    | ret w =>
      obtain ⟨z, H', I', rz, r, ez, q⟩ := I.after hq
      subst ez
      cases rz
      exact ⟨.bl r, H', I', rfl, q⟩
    | next => exact False.elim hq
    | brk => exact False.elim hq
    | cont => exact False.elim hq
theorem op_ownNe (c : MetE X.prog X.w X.K X.mg X.base k C "__eq__" ps sp) (hm : PySem.W.mroIn X.K C (.type "object") = some true) (hs : PySem.W.findIn X.K (.ref C) "__ne__" = some (some (.builtin "object.__ne__"))) (hr : Room j X.A) (hk : k + 1 ≤ j) (hx : Passes (L2.CX X.prog X.w) X E) :
    OpR X (compareOp .NotEq) (rOwn C true sp E) := by
  intro pins s σ H x y v u Q I rx ry h
  obtain ⟨a, dx, fs, b, dy, gs, rfl, rfl, ha, hb', hsp⟩ := h
  obtain ⟨cl, f, fd, M, F, hb⟩ := c
  cases rx
  cases ry
  obtain ⟨mA, J, _⟩ := ins_get I.hok ha
  obtain ⟨mB, J', _⟩ := ins_get I.hok hb'
  obtain ⟨od, J, _⟩ := J.look
  obtain ⟨od', J', _⟩ := J'.look
  have hr1 : Room (k + 1) X.A := hr.mono hk
  show wpAny (model X.prog X.w) X.A (richCompare .NotEq (.ref a) (.ref b)) _ _ _
  refine ne_K (tb := .ref C) hr1.units0 hr1.in1.units0 I.kIn J J'.type (by simp [PySem.W.notFirst]) hm hs M.at_ M.fn ?_
  have hl := F.len _ _ _ _ hsp
  have r2 : Vals [V.ref a, V.ref b] [Value.ref a, Value.ref b] := .cons rfl (.cons rfl .nil)
  refine wpAny_call (codeAny_mono (F.run X.A.in1 X.stack s H ⟨[.ref a, .ref b], []⟩ [.ref a, .ref b] [.ref a, .ref b] _ E hr1.in1 I.env0.in1 (by
    have := hb s [.ref a, .ref b] I.kIn (by simpa using hl)
    simpa using this) r2 hsp) fun r s' hq => ?_)
  cases r with
  | error e => exact hx pins σ H s e s' I hq
  | ok fl =>
    cases fl with
    | ret w =>
      obtain ⟨z, H', I', rz, r, ez, q⟩ := I.after hq
      subst ez
      cases rz
      exact ⟨r, rfl, .bl _, H', I', rfl, q⟩
    | next => exact False.elim hq
    | brk => exact False.elim hq
    | cont => exact False.elim hq
end
/-! ### a range with its step as a value -/
def rgo (p : Addr) (lo hi c : Int) : HO := .ext fun h => ∃ t u v, h.get? p = some { cls := .type "range", dict := none, data := .fields #[.int lo t, .int hi u, .int c v], slots := #[] }
def rRange3 : List V → Hp → VK → Prop := fun vs H Q => ∃ i j c : Int, vs = [.int i, .int j, .int c] ∧ c ≠ 0 ∧ c.natAbs < 1073741824 ∧ ∀ p, H p = none → Q (.ref p) (upd H p (rgo p i j c))
theorem cr_range3 {X : Cx} : CallR X (.type "range") rRange3 := by
  intro pins s σ H vs us Q I r h
  obtain ⟨i, j, c, rfl, c0, c1, q⟩ := h
  cases r with
  | cons r rr =>
    cases rr with
    | cons r' rr =>
      cases rr with
      | cons r'' rr =>
        cases rr
        obtain ⟨t, rfl⟩ := r
        obtain ⟨t', rfl⟩ := r'
        obtain ⟨t'', rfl⟩ := r''
        refine call_range_3 c0 ⟨.ref s.heap.objs.size, upd H s.heap.objs.size (rgo s.heap.objs.size i j c), I.laid (t' := s.toks) (fun b o e => Heap.get?_push_of_some _ e) (Nat.le_refl _) ?_, rfl, q _ (I.hok.fresh (Nat.le_refl _))⟩ (.inl (PyProof.noPylong_small c1))
        have e : (s.heap.push { cls := .type "range", data := .fields #[.int i t, .int j t', .int c t''] }).get? s.heap.objs.size = some { cls := .type "range", dict := none, data := .fields #[.int i t, .int j t', .int c t''], slots := #[] } := Heap.get?_push_size _ rfl
        exact ⟨⟨t, t', t'', e⟩, ⟨_, e⟩, fun h1 h2 ⟨a, b, d, q⟩ k => ⟨a, b, d, k _ q⟩⟩
def iRgo (te : TE) : TI := fun σ H R => te σ H fun v H1 => ∃ (p : Addr) (i j c : Int) (n : Nat), v = .ref p ∧ H1 p = some (rgo p i j c) ∧ RgC i j c n ∧ R (Itc i c n) H1
theorem pi_rgo {X : Cx} {tg e : Expr} {te : TE} (he : PE X e te) : PI X tg e (iRgo te) := by
  refine ⟨fun pins s σ H R I h => ?_⟩
  refine thn (he.run pins s σ H _ I h) fun v s1 ⟨y, H1, I1, r1, p, i, j, c, n, ey, hp, ⟨c0, c1, c2, c3⟩, q⟩ => ?_
  subst ey
  obtain rfl : v = Value.ref p := r1
  obtain ⟨⟨t, u, w, ho⟩, _⟩ := I1.hok p _ hp
  refine wpAny_pyIter_range ho c2 ?_
  refine pi_one (tk := s1.toks) I1 _ (turn_rangeC _ i c n) ?_ q
  have e1 : i + ((0 : Nat) : Int) * c = i := by simp
  have e2 : (n : Int) - ((0 : Nat) : Int) = Builtin.Range.rangeSize i j c := by rw [c3]; simp
  show IsRangeIter _ _ (i + ((0 : Nat) : Int) * c) ((n : Int) - ((0 : Nat) : Int)) c
  rw [e1, e2]
  exact Heap.get?_push_size _ rfl
end PB
namespace PB
open PySem PySem.Spec L2
open PyProof.Rows hiding St
/-! ### a lambda called in a try whose value is told in a pair -/
/-- what it was: (w1, the value) or (w2, what the exception's field says) -/
def TTtold (C : Addr) (f w1 w2 : Str) : (XK → Hp → VK → Prop) → Hp → VK → Prop := fun tl H Q =>
  tl (fun cls d H' => cls = .ref C ∧ ∃ dd v, d = some dd ∧ H' dd = some (.xd [(f, v)]) ∧ [V.str w2, v].length ≤ sizeLine ∧ ∀ p, H' p = none → Q (.ref p) (upd H' p (.tup [.str w2, v]))) H fun v H' => [V.str w1, v].length ≤ sizeLine ∧ ∀ p, H' p = none → Q (.ref p) (upd H' p (.tup [.str w1, v]))
theorem told_gives {X : Cx} {x a e n f q w1 w2 : Str} {sg : Scope} {g CS : Addr} {cdg : Value} {j j2 : Nat} {k1 k2 : Nat} {p1 p2 p3 p4 p5 p6 p7 p8 p9 p10 p11 p12 p13 : Pos} (hge : sg.names.lookup e = some .globalImplicit) (hme : X.mg e = some (.ref CS)) (hde : (e == ("__debug__" : Str)) = false)
    (T : XfC X.K CS) (hno : PySem.W.findIn X.K (.ref CS) f = some none) (hex : PySem.W.exmOne X.K (.ref CS) (.ref CS) = some true) (hnd : [a, n].Nodup) (hln : sg.names.lookup n = some .local) (hn1 : (n == ("__debug__" : Str)) = false) (hn2 : (n == ("__classdict__" : Str)) = false)
    (hb : ∀ env : Env, attributeBase (.Name n p7) f env (eval (.Name n p7) env) = eval (.Name n p7) env)
    (hs1 : ∀ env : Env, starEach [.Constant (.str w1) j p13, .Call (.Name a p1) [] [] p2] env = (false, eval (.Constant (.str w1) j p13) env) :: starEach [.Call (.Name a p1) [] [] p2] env := by intro _; rfl)
    (hs2 : ∀ env : Env, starEach [.Call (.Name a p1) [] [] p2] env = (false, eval (.Call (.Name a p1) [] [] p2) env) :: starEach [] env := by intro _; rfl) :
    LamX.GivesTo X [a, n] x sg g cdg [.Try [.Return (some (.Tuple [.Constant (.str w1) j p13, .Call (.Name a p1) [] [] p2] k1 p3)) p4] [.ExceptHandler (some (.Name e p5)) (some n) [.Return (some (.Tuple [.Constant (.str w2) j2 p6, .Attribute (.Name n p7) f p8] k2 p9)) p10] p11] [] [] p12] a q (TTtold CS f w1 w2) := by
  intro fa c' s H Q tl act hc h
  have hgl : Gl (cxOf C8.CX0 X.prog X.w X.K X.mg X.base [a, n] x sg g cdg X.A X.stack s H C8.E0).nox e := hge
  refine ⟨_, pss_one (ps_try_as (X := (cxOf C8.CX0 X.prog X.w X.K X.mg X.base [a, n] x sg g cdg X.A X.stack s H C8.E0).nox) (c := .ref CS) (i := 1)
      (tb := fun W D σ H => ∃ Ech : XK, (∀ cls d σ' H', σ'.length = 2 → Ech cls d H' → W cls d σ' H') ∧ σ[0]? = some (some (.ref fa)) ∧ H c' = some (LamX.CodeO c' q) ∧ tl Ech H fun v H' => [V.str w1, v].length ≤ sizeLine ∧ ∀ p, H' p = none → D.rt (.ref p) (upd H' p (.tup [.str w1, v])))
      rfl rfl hnd rfl hln ⟨hgl, hde, .inl hme⟩ LamX.takes0 (fun W pn xe tk _ => ?_) (fun b oe cls d pn hz hf => pss_one (ps_ret (pe_tup (pa_cons pe_str (pa_cons (pe_xf T hno hz hf (pe_var (i := 1) rfl (.inl hln) hn1 hn2) (hb _)) pa_nil)))))), ?_⟩
  · refine ⟨fun pins s' σ H' D I h' => ?_⟩
    obtain ⟨Ech, hW, h1, h2, h3⟩ := h'
    have hp := act _ pn xe Ech p1 p2 (takes_len (n := 2) rfl tk) fun cls d σ' H' k l => hW cls d σ' H' l k
    exact (pss_one (ps_ret (pe_tup (pa_cons pe_str (pa_cons hp pa_nil (hs2 _)) (hs1 _))))).run pins s' σ H' D I ⟨h1, h2, h3⟩
  · refine ⟨fun cls d H' => cls = .ref CS ∧ ∃ dd v, d = some dd ∧ H' dd = some (.xd [(f, v)]) ∧ [V.str w2, v].length ≤ sizeLine ∧ ∀ p, H' p = none → Q (.ref p) (upd H' p (.tup [.str w2, v])), fun cls d σ' H' hl hE => ?_, rfl, hc, h⟩
    obtain ⟨rfl, dd, v, rfl, hd, hq⟩ := hE
    refine ⟨true, hex, fun _ b hb' => ?_, fun z => by cases z⟩
    match σ', hl with
    | [s0, s1], _ => exact ⟨.ref b, rfl, rfl, rfl, dd, [(f, v)], v, rfl, hd, by rw [List.lookup_cons, beq_self_eq_true], hq⟩
/-- the def that tells what its lambda gave -/
def RefT (K : PySem.W.Frag) (mg : Str → Option Value) (x : Str) (TT : (XK → Hp → VK → Prop) → Hp → VK → Prop) : Prop :=
  ∃ (g : Addr) (oc : Value) (od : Option Addr) (osl : Array (Option Value)) (pg : Arguments) (bg : List Stmt) (sg : Scope) (dV kV doc pm cdv ct : Value) (an : Option Addr) (a n : Str),
    K.lookup g = some ⟨oc, od, .func (PySem.W.fnOf x x pg bg sg dV kV doc pm an cdv ct), osl⟩ ∧ PySem.W.keepIn K (.ref g) = true ∧ PySem.W.codeIn K cdv x = true ∧ mg x = some (.ref g) ∧ L2.Binds K (PySem.W.fnOf x x pg bg sg dV kV doc pm an cdv ct) [a] [] ∧
      FnScope [a, n] [a] sg ∧ sg.names.lookup a = some .local ∧ ((a == ("__debug__" : Str)) = false ∧ (a == ("__classdict__" : Str)) = false) ∧ ∀ X : Cx, X.K = K → X.mg = mg → ∀ q, LamX.GivesTo X [a, n] x sg g cdv bg a q TT
theorem pe_refT {X : Cx} {T : List (Addr × Str)} {TT : (XK → Hp → VK → Prop) → Hp → VK → Prop} {x : Str} {c P : Addr} {k j : Nat} {params : Arguments} {body : Expr} {scope : Scope} {t : XK → TE} {p lpos pos : Pos} (R : RefT X.K X.mg x TT) (TB : LamX.TabB X.base X.mg c P) (hcode : X.env.code = .ref c)
    (hm : (P, X.env.qual ++ "<lambda>") ∈ T) (hu : ∀ p ∈ T, p.1 = P → p.2 = X.env.qual ++ "<lambda>")
    (hr : Room j X.A) (hk : k + 2 ≤ j) (L : LamX.LamS X.env.scope scope) (hdef : defaultsOf params X.env = ([], [])) (hbind : ∀ (q : Str) (cl : List (Str × Addr)) (pm cv ctv : Value), bindArgs (PySem.W.kla_fn "<lambda>" q params body scope cl pm cv ctv) ⟨[], []⟩ = pure [])
    (hbody : ∀ (A : Around) (outer : List Env) (s : Shared) (H : Hp) (E : XK) (f c' : Addr), Room k (A.deeper (LamX.lamEnv X scope s.heap.objs.size f c')) → PE (LamX.lamCx X A outer s H E scope f c') body (t E))
    (hg : Gl X x := by rfl) (hdb : (x == ("__debug__" : Str)) = false := by decide) : PE X (.Call (.Name x p) [.Lambda params body scope lpos] [] pos) (LamX.tLam T TT t) := by
  obtain ⟨g, oc, od, osl, pg, bg, sg, dV, kV, doc, pm, cdv, ct, an, a, n, lk, kp, hcg, hm', hb, Sg, hla, ⟨d1, d2⟩, G⟩ := R
  exact LamX.pe_lamcall (c := c) (P := P) hg hm' kp lk hcg hb Sg rfl (.inl hla) (G X rfl rfl _) TB hcode hm hu (hr.mono hk) L hdef hbind hbody hdb d1 d2
end PB

/-! PO: own classes at the head: getters, isinstance, == and !=; methods by place and by keyword; frames but for some addresses. -/
namespace PB
open PySem PySem.Spec L2
open PyProof.Rows hiding St
abbrev InsC := C8.InsC
theorem passP {X : Cx} : Passes (L2.CX X.prog X.w) X.nox E0 := passL (X := X.nox)
/-- what isinstance, != and == ask of an own class -/
def insB (K : PySem.W.Frag) (x : Str) : Bool :=
  eqS (PySem.W.findIn K (.ref (He.ga K x)) "__class__") (some (some (.builtin "object.__class__"))) && (eqS (PySem.W.specialIn K (.builtin "object.__class__") "__get__") (some (some (.builtin "getset_descriptor.__get__"))) &&
  (decide (PySem.W.takesIn K (.builtin "object.__class__") = some true) && (decide (PySem.W.mroIn K (He.ga K x) (.type "object") = some true) && (decide (PySem.W.kitOne K (.ref (He.ga K x)) (.ref (He.ga K x)) = some true) &&
  eqS (PySem.W.findIn K (.ref (He.ga K x)) "__ne__") (some (some (.builtin "object.__ne__")))))))
structure OwnC (K : PySem.W.Frag) (x : Str) : Prop where
  ha : PySem.W.findIn K (.ref (He.ga K x)) "__class__" = some (some (.builtin "object.__class__"))
  hn : PySem.W.specialIn K (.builtin "object.__class__") "__get__" = some (some (.builtin "getset_descriptor.__get__"))
  htk : PySem.W.takesIn K (.builtin "object.__class__") = some true
  hm : PySem.W.mroIn K (He.ga K x) (.type "object") = some true
  me : PySem.W.kitOne K (.ref (He.ga K x)) (.ref (He.ga K x)) = some true
  ne : PySem.W.findIn K (.ref (He.ga K x)) "__ne__" = some (some (.builtin "object.__ne__"))
theorem insB_ok {K : PySem.W.Frag} {x : Str} (h : insB K x = true) : OwnC K x := by
  unfold insB at h
  simp only [Bool.and_eq_true, eqS, decide_eq_true_eq] at h
  obtain ⟨h1, h2, h3, h4, h5, h6⟩ := h
  exact ⟨h1, h2, h3, h4, h5, h6⟩
/-- isinstance(a, C), a an instance of C -/
def rIsC (C : Addr) : List V → Hp → VK → Prop := fun xs H Q => ∃ a dx fs, xs = [.ref a, .ref C] ∧ H a = some (.ins C dx fs) ∧ Q (.bl true) H
theorem k_isC {X : Cx} {K : PySem.W.Frag} {C : Addr} (eK : X.K = K) (c : InsC K C) : CallR X (.builtin "isinstance") (rIsC C) := by subst eK; exact C8.call_isC c
theorem k_maxL {X : Cx} {K : PySem.W.Frag} (eK : X.K = K) (hc : X.calm = true) : CallR X (.builtin "max") (rMax K) := by subst eK; exact cr_max hc
theorem r_isC {C a dx : Addr} {fs : List (Str × V)} {H : Hp} {Q : VK} (h : H a = some (.ins C dx fs)) (q : Q (.bl true) H) : rIsC C [.ref a, .ref C] H Q := ⟨a, dx, fs, rfl, h, q⟩
/-- what the top has left, own classes too -/
structure CtJ (fa : List He.Fa) (fn : List He.DefD) (pd : List PrpD) (oc : List Str) (K : PySem.W.Frag) (mg : Str → Option Value) (base : Heap) : Prop extends Ct fa fn K mg base where
  prp : ∀ (i : Nat) (d : PrpD), pd[i]? = some d → PropOf K (clsA K d.x) d.m (prpO K d.x d.m) (prpA K d.x d.m) ∧ ∃ fd, FunD K d.m (d.x ++ "." ++ d.m) d.params d.body d.scope [] [] (prpA K d.x d.m) fd
  own : ∀ x ∈ oc, OwnC K x
section
variable {P : Program} {w : World} {fa : List He.Fa} {fn : List He.DefD} {pd : List PrpD} {oc : List Str} {K : PySem.W.Frag} {mg : Str → Option Value} {base : Heap}
theorem CtJ.insC (C : CtJ fa fn pd oc K mg base) (c : Nat) {x : Str} (hx : x ∈ oc) (hc : fa[c]? = some (.cls x)) : InsC K (He.ga K x) :=
  have o := C.own x hx
  ⟨He.cls_ok (C.says.fact c hc), o.ha, o.hn, o.htk, o.hm, o.me⟩
theorem CtJ.prpE (C : CtJ fa fn pd oc K mg base) (i c : Nat) {x m qual : Str} {a : Arguments} {b : List Stmt} {sc : Scope} (hd : pd[i]? = some ⟨x, m, a, b, sc⟩) (hq : x ++ "." ++ m = qual) (hc : fa[c]? = some (.cls x)) {N ps : List Str} {k : Nat} {sp : Sp} (S : FnScope N ps sc)
    (hb : ∀ (kV doc pm : Value) (an : Option Addr) (cdv ct : Value) (us : List Value), us.length = ps.length → bindArgs (PySem.W.fnOf m qual a b sc .none kV doc pm an cdv ct) ⟨us, []⟩ = pure (ps.zip us))
    (len : ∀ vs H Q E, sp vs H Q E → vs.length = ps.length)
    (hbody : ∀ (f : Addr) (cdv : Value) (A : Around) (outer : List Env) (s : Shared) (H : Hp) (vs : List V) (Q : VK) (E : XK), Room k (A.deeper (envOfC qual sc s.heap.objs.size f cdv)) → sp vs H Q E →
      ∃ t, PSs (cxOf (L2.CX P w) P w K mg base N qual sc f cdv A outer s H E) b t ∧ t { nx := fun _ H' => Q .non H', rt := Q } (start N vs) H) : PrpE P w K mg base (k + 1) (He.ga K x) m ps sp := by
  subst hq
  obtain ⟨pr, fd, F⟩ := C.prp i _ hd
  exact ⟨He.cls_ok (C.says.fact c hc), _, _, fd, pr, FunD.ok F S len fun cdv A outer s H vs Q E hr h => hbody _ cdv A outer s H vs Q E hr h, FunD.bindsN F hb⟩
/-- a method: by place and by its keywords -/
theorem Ct.met2 (C : Ct fa fn K mg base) (i j c : Nat) {x m qual : Str} {a : Arguments} {b : List Stmt} {sc : Scope} (hd : fn[i]? = some ⟨(x, some m), m, qual, a, b, sc, [], []⟩) (hj : fa[j]? = some (.meth x m)) (hc : fa[c]? = some (.cls x)) {N ps : List Str} {s0 : Str} {ks : List Str} {k : Nat} {sp : Sp} (S : FnScope N ps sc)
    (hps : ps = s0 :: ks) (hb : ∀ (kV doc pm : Value) (an : Option Addr) (cdv ct : Value) (us : List Value), us.length = ps.length → bindArgs (PySem.W.fnOf m qual a b sc .none kV doc pm an cdv ct) ⟨us, []⟩ = pure (ps.zip us))
    (hb2 : ∀ (kV doc pm : Value) (an : Option Addr) (cdv ct : Value) (u : Value) (ws : List Value), ws.length = ks.length → bindArgs (PySem.W.fnOf m qual a b sc .none kV doc pm an cdv ct) ⟨[u], ks.zip ws⟩ = pure (ps.zip (u :: ws)))
    (len : ∀ vs H Q E, sp vs H Q E → vs.length = ps.length)
    (hbody : ∀ (f : Addr) (cdv : Value) (A : Around) (outer : List Env) (s : Shared) (H : Hp) (vs : List V) (Q : VK) (E : XK), Room k (A.deeper (envOfC qual sc s.heap.objs.size f cdv)) → sp vs H Q E →
      ∃ t, PSs (cxOf (L2.CX P w) P w K mg base N qual sc f cdv A outer s H E) b t ∧ t { nx := fun _ H' => Q .non H', rt := Q } (start N vs) H) :
    MetE P w K mg base (k + 1) (He.ga K x) m ps sp ∧ MetK P w K mg base (k + 1) (He.ga K x) m ks sp (fun xs zs => xs ++ zs) := by
  obtain ⟨fd, F⟩ := C.says.def_ i hd
  have ok := FunD.ok F S len fun cdv A outer s H vs Q E hr h => hbody _ cdv A outer s H vs Q E hr h
  refine ⟨⟨He.cls_ok (C.says.fact c hc), _, fd, He.meth_ok (C.says.fact j hj), ok, FunD.bindsN F hb⟩, ?_⟩
  obtain ⟨oc, od, dV, kV, doc, pm, an, cdv, ct, osl, rfl, lk, hcd, hD, hK⟩ := F.ex
  have dn : dV = .none := by
    rcases hD with ⟨_, e⟩ | ⟨e, _⟩
    · exact e
    · exact absurd rfl e
  subst dn
  refine ⟨He.cls_ok (C.says.fact c hc), _, _, ps, fun us ws => us ++ ws, He.meth_ok (C.says.fact j hj), ok, ⟨fun s us ws _ l1 l2 => ?_, fun r1 r2 => r1.append r2⟩⟩
  match us, l1 with
  | [u], _ => exact .of_eq (hb2 kV doc pm an cdv ct u ws l2)
theorem Ct.mak2 (C : Ct fa fn K mg base) (i j g : Nat) {x qual : Str} {a : Arguments} {b : List Stmt} {sc : Scope} (hd : fn[i]? = some ⟨(x, some "__init__"), "__init__", qual, a, b, sc, [], []⟩) (hj : fa[j]? = some (.mkr x)) (hg : fa[g]? = some (.glo x)) {N ps : List Str} {s0 : Str} {ks : List Str} {k : Nat} {sp : Sp} (S : FnScope N ps sc)
    (hps : ps = s0 :: ks) (hb : ∀ (kV doc pm : Value) (an : Option Addr) (cdv ct : Value) (us : List Value), us.length = ps.length → bindArgs (PySem.W.fnOf "__init__" qual a b sc .none kV doc pm an cdv ct) ⟨us, []⟩ = pure (ps.zip us))
    (hb2 : ∀ (kV doc pm : Value) (an : Option Addr) (cdv ct : Value) (u : Value) (ws : List Value), ws.length = ks.length → bindArgs (PySem.W.fnOf "__init__" qual a b sc .none kV doc pm an cdv ct) ⟨[u], ks.zip ws⟩ = pure (ps.zip (u :: ws)))
    (len : ∀ vs H Q E, sp vs H Q E → vs.length = ps.length)
    (hbody : ∀ (f : Addr) (cdv : Value) (A : Around) (outer : List Env) (s : Shared) (H : Hp) (vs : List V) (Q : VK) (E : XK), Room k (A.deeper (envOfC qual sc s.heap.objs.size f cdv)) → sp vs H Q E →
      ∃ t, PSs (cxOf (L2.CX P w) P w K mg base N qual sc f cdv A outer s H E) b t ∧ t { nx := fun _ H' => Q .non H', rt := Q } (start N vs) H) :
    MakE P w K mg base (k + 1) x (He.ga K x) ps sp ∧ MakK P w K mg base (k + 1) x (He.ga K x) ks sp (fun xs zs => xs ++ zs) := by
  obtain ⟨fd, F⟩ := C.says.def_ i hd
  have ok := FunD.ok F S len fun cdv A outer s H vs Q E hr h => hbody _ cdv A outer s H vs Q E hr h
  refine ⟨⟨He.glo_ok C.kin C.glob (C.says.fact g hg), _, fd, He.mkr_ok (C.says.fact j hj), ok, FunD.bindsN F hb⟩, ?_⟩
  obtain ⟨oc, od, dV, kV, doc, pm, an, cdv, ct, osl, rfl, lk, hcd, hD, hK⟩ := F.ex
  have dn : dV = .none := by
    rcases hD with ⟨_, e⟩ | ⟨e, _⟩
    · exact e
    · exact absurd rfl e
  subst dn
  refine ⟨He.glo_ok C.kin C.glob (C.says.fact g hg), _, _, ps, fun us ws => us ++ ws, He.mkr_ok (C.says.fact j hj), ok, ⟨fun s us ws _ l1 l2 => ?_, fun r1 r2 => r1.append r2⟩⟩
  match us, l1 with
  | [u], _ => exact .of_eq (hb2 kV doc pm an cdv ct u ws l2)
end
/-! ### frames: all but some addresses and the tables -/
def EO (ds : List Addr) (H H' : Hp) : Prop := ∀ b o, b ∉ ds → H b = some o → (∀ ps, o ≠ .tbl ps) → H' b = some o
section
variable {ds es : List Addr} {H H1 H2 H' : Hp} {a d p : Addr} {K : PySem.W.Frag}
theorem EO.e (e : Ex H H') : EO ds H H' := fun b o _ h _ => e b o h
theorem EO.n (e : ExN H H') : EO ds H H' := fun b o _ h t => e b o h t
theorem EO.b (e : ExB d H H') (m : d ∈ ds) : EO ds H H' := fun b o n h _ => e b o (fun z => n (z ▸ m)) h
theorem EO.en (e : EN d H H') (m : d ∈ ds) : EO ds H H' := fun b o n h t => e b o (fun z => n (z ▸ m)) h t
theorem EO.tr (x : EO ds H H1) (y : EO ds H1 H2) : EO ds H H2 := fun b o n h t => y b o n (x b o n h t) t
theorem EO.sub (x : EO ds H H1) (m : ∀ d ∈ ds, d ∈ es) : EO es H H1 := fun b o n h t => x b o (fun z => n (m b z)) h t
theorem EO.put {o : HO} (m : p ∈ ds) : EO ds H (upd H p o) := fun b u n h _ => (upd_ne (fun z => n (by rw [z]; exact m))).trans h
theorem EO.refl : EO ds H H := fun _ _ _ h _ => h
theorem EO.lst {xs : List V} (e : EO ds H H') (n : a ∉ ds) (h : H a = some (.lst xs)) : H' a = some (.lst xs) := e a _ n h (fun _ z => nomatch z)
theorem EO.ins {C dx : Addr} {fs : List (Str × V)} (e : EO ds H H') (n : a ∉ ds) (h : H a = some (.ins C dx fs)) : H' a = some (.ins C dx fs) := e a _ n h (fun _ z => nomatch z)
theorem EO.tup {xs : List V} (e : EO ds H H') (n : a ∉ ds) (h : H a = some (.tup xs)) : H' a = some (.tup xs) := e a _ n h (fun _ z => nomatch z)
theorem EO.sqT {xs : List V} (e : EO ds H H') (n : a ∉ ds) (h : SqT K H a xs) : SqT K H' a xs := by
  rcases h with (h | ⟨o, h⟩) | h
  · exact .inl (.inl (e.tup n h))
  · exact .inl (.inr ⟨o, e a _ n h (fun _ z => nomatch z)⟩)
  · exact .inr h
theorem EO.sqL {xs : List V} (e : EO ds H H') (n : a ∉ ds) (h : SqL K H a xs) : SqL K H' a xs := by
  rcases h with (h | ⟨o, h⟩) | h
  · exact .inl (.inl (e.lst n h))
  · exact .inl (.inr ⟨o, e a _ n h (fun _ z => nomatch z)⟩)
  · exact .inr h
theorem EO.dice {n : Nat} (e : EO ds H H') (m : d ∉ ds) (h : Dice n H d) : Dice n H' d := by
  obtain ⟨x, y, z, h1, h2⟩ := h
  exact ⟨x, y, z, e.lst m h1, h2⟩
end
end PB
namespace PB
open PySem PySem.Spec L2
open PyProof.Rows hiding St
section
variable {σ : St} {H : Hp} {Q : VK} {K : PySem.W.Frag} {tt : TT} {te : TE} {vs : List Nat} {j m : Nat} {J : It} {g : Nat → V}
/-- rows, one or none of each turn -/
theorem c_wR (w : Walk J m (fun _ => True) (YFn g)) (f : Nat → Option (List Int)) (hm : m < 16000000) (hw : ∀ x, wipe ((wipe σ vs).set j (some x)) vs = wipe σ vs)
    (turn : ∀ (i : Nat) H1 (q : VK) (N : Hp → Prop), i < m → Ex H H1 → (∀ v r H4, f i = some r → Ex H1 H4 → Row K H4 v r → q v H4) → (f i = none → ∀ H4, Ex H1 H4 → N H4) →
      tt ((wipe σ vs).set j (some (g i))) H1 fun b H4 => if b = true then te ((wipe σ vs).set j (some (g i))) H4 q else N H4)
    (done : ∀ L H' us, H L = none → Ex H H' → H' L = some (.lst us) → us.length ≤ m → Rws K H' us ((List.range m).filterMap f) → Q (.ref L) H') : CQ (gName j) tt te vs σ Q J H := by
  refine c_it w hm (fun _ _ => trivial) (fun i acc H' => Rws K H' acc ((List.range i).filterMap f)) (fun _ _ => .nil) (fun L i acc H1 u u' hL _ p => p.put hL) ?_ ?_
  · rintro i x acc H1 H2 q N hi e1 p ⟨rfl, rfl⟩ hq hN
    have tk : (List.range (i + 1)).filterMap f = (List.range i).filterMap f ++ (f i).toList := by
      rw [List.range_succ, List.filterMap_append]
      congr 1
    refine ⟨hw _, turn i H2 q N hi e1 (fun v r H4 er e4 rw' => hq v H4 e4 ?_) fun en H4 e4 => hN H4 e4 ?_⟩
    · rw [tk, er]
      exact (p.ex e4).snoc rw'
    · rw [tk, en, Option.toList_none, List.append_nil]
      exact p.ex e4
  · intro L acc H' h1 h2 h3 h4 h5
    exact done L H' acc h1 h2 h3 h4 h5
def fltV (p : Int → Bool) (f : Int → Int) : V → Option V
  | .int n => if p n then some (.int (f n)) else none
  | _ => none
theorem flt_map (p : Int → Bool) (f : Int → Int) : ∀ ns : List Int, (ns.map V.int).filterMap (fltV p f) = ((ns.filter p).map f).map V.int
  | [] => rfl
  | n :: ns => by
    rw [List.map_cons, List.filter_cons]
    by_cases c : p n = true
    · rw [if_pos c, List.filterMap_cons_some (b := .int (f n)) (by show (if p n = true then _ else _) = _; rw [if_pos c]), flt_map p f ns]; rfl
    · rw [if_neg c, List.filterMap_cons_none (by show (if p n = true then _ else _) = _; rw [if_neg c]), flt_map p f ns]
/-- the ints of a list or tuple that are kept, and what is made of each -/
theorem c_fltI {k : Sk} {a : Addr} {ns : List Int} (h : k.at K H a (ns.map V.int)) (p : Int → Bool) (f : Int → Int) (hn : ns.length < 16000000) (hw : ∀ x, wipe ((wipe σ vs).set j (some x)) vs = wipe σ vs)
    (turn : ∀ n H1 (q : VK) (N : Hp → Prop), n ∈ ns → Ex H H1 → (∀ H4, p n = true → Ex H1 H4 → q (.int (f n)) H4) → (∀ H3, p n = false → Ex H1 H3 → N H3) →
      tt ((wipe σ vs).set j (some (.int n))) H1 fun b H4 => if b = true then te ((wipe σ vs).set j (some (.int n))) H4 q else N H4)
    (done : ∀ L H', H L = none → Ex H H' → H' L = some (.lst (((ns.filter p).map f).map V.int)) → Q (.ref L) H') : sQ K (CQ (gName j) tt te vs σ Q) (.ref a) H := by
  refine c_seq h (fltV p f) (by rw [List.length_map]; exact hn) (fun H' e => k.ex e h) hw ?_ fun L H' h1 h2 h3 => done L H' h1 h2 ?_
  · intro x H1 q N hx e1 hq hN
    obtain ⟨n, hn', rfl⟩ := List.mem_map.mp hx
    exact turn n H1 q N hn' e1 (fun H4 hp e4 => hq _ H4 (by show (if p n = true then _ else _) = _; rw [if_pos hp]) e4) fun H3 hp e3 => hN H3 (by show (if p n = true then _ else _) = _; rw [if_neg (by rw [hp]; decide)]) e3
  · rw [h3, flt_map]
end
end PB
namespace PB
open PySem PySem.Spec L2
open PyProof.Rows hiding St
theorem isT_tup (p : PyData) : isT (tyD p) "tuple" = (match p with | .tuple _ => true | _ => false) := by
  cases p with
  | none => exact (show isT "NoneType" "tuple" = false by decide)
  | bool => exact (show isT "bool" "tuple" = false by decide)
  | int => exact (show isT "int" "tuple" = false by decide)
  | str => exact (show isT "str" "tuple" = false by decide)
  | list => exact (show isT "list" "tuple" = false by decide)
  | tuple => exact (show isT "tuple" "tuple" = true by decide)
  | dict => exact (show isT "dict" "tuple" = false by decide)
theorem isT_str (p : PyData) : isT (tyD p) "str" = (match p with | .str _ => true | _ => false) := by
  cases p with
  | none => exact (show isT "NoneType" "str" = false by decide)
  | bool => exact (show isT "bool" "str" = false by decide)
  | int => exact (show isT "int" "str" = false by decide)
  | str => exact (show isT "str" "str" = true by decide)
  | list => exact (show isT "list" "str" = false by decide)
  | tuple => exact (show isT "tuple" "str" = false by decide)
  | dict => exact (show isT "dict" "str" = false by decide)
end PB
namespace PB
open PySem PySem.Spec L2
open PyProof.Rows hiding St
theorem rgc_pos {i j c : Int} (hc : 0 < c) (hc1 : c < 1073741824) (h1 : 0 ≤ i) (h2 : i < 1000000) (h3 : 0 ≤ j) (h4 : j < 1000000) : RgC i j c (if i < j then ((j - i - 1) / c + 1).toNat else 0) := by
  have e : Builtin.Range.rangeSize i j c = ((if i < j then ((j - i - 1) / c + 1).toNat else 0 : Nat) : Int) := by
    unfold Builtin.Range.rangeSize
    rw [if_pos hc]
    split
    · have := Int.ediv_nonneg (show 0 ≤ j - i - 1 by omega) (show 0 ≤ c by omega)
      omega
    · rfl
  refine ⟨by omega, by omega, ?_, e⟩
  unfold Builtin.Range.small
  rw [e]
  simp only [Builtin.Range.rangeFitsLong, Bool.and_eq_true, Bool.or_eq_true, decide_eq_true_eq, beq_iff_eq, hc, if_true]
  have : ((if i < j then ((j - i - 1) / c + 1).toNat else 0 : Nat) : Int) ≤ 1000001 := by
    split
    · have := Int.ediv_le_self c (show 0 ≤ j - i - 1 by omega)
      omega
    · decide
  have : 0 ≤ ((if i < j then ((j - i - 1) / c + 1).toNat else 0 : Nat) : Int) := by omega
  generalize ((if i < j then ((j - i - 1) / c + 1).toNat else 0 : Nat) : Int) = n at *
  omega
theorem rgc_st {st cp : Nat} (h1 : 1 ≤ st) (h2 : st ≤ 1000) (h3 : cp ≤ 10000) : RgC (st : Int) ((cp : Int) + 1) (st : Int) (cp / st) := by
  have h := rgc_pos (i := (st : Int)) (j := (cp : Int) + 1) (c := (st : Int)) (by omega) (by omega) (by omega) (by omega) (by omega) (by omega)
  have e : (if (st : Int) < (cp : Int) + 1 then (((cp : Int) + 1 - st - 1) / st + 1).toNat else 0) = cp / st := by
    split
    · have e1 : (cp : Int) + 1 - st - 1 = ((cp - st : Nat) : Int) := by omega
      rw [e1, ← Int.natCast_ediv]
      have : cp / st = (cp - st) / st + 1 := by
        rw [← Nat.add_div_right _ (by omega)]
        congr 1
        omega
      rw [this]
      generalize (cp - st) / st = z
      omega
    · exact (Nat.div_eq_of_lt (by omega)).symm
  rw [e] at h
  exact h
theorem r_range3 {i j c : Int} {H : Hp} {Q : VK} (c0 : c ≠ 0) (c1 : c.natAbs < 1073741824) (q : ∀ p, H p = none → Q (.ref p) (upd H p (rgo p i j c))) : rRange3 [.int i, .int j, .int c] H Q := ⟨i, j, c, rfl, c0, c1, q⟩
theorem r_iRgo {te : TE} {σ : St} {H : Hp} {R : It → Hp → Prop} (h : te σ H fun v H1 => ∃ (p : Addr) (i j c : Int) (n : Nat), v = .ref p ∧ H1 p = some (rgo p i j c) ∧ RgC i j c n ∧ R (Itc i c n) H1) : iRgo te σ H R := h
end PB
namespace PB
open PySem PySem.Spec L2
open PyProof.Rows hiding St
def EB (ds : List Addr) (H H' : Hp) : Prop := ∀ b o, b ∉ ds → H b = some o → H' b = some o
section
variable {ds es : List Addr} {H H1 H2 H' : Hp} {a d p : Addr} {K : PySem.W.Frag}
theorem EB.eo (e : EB ds H H') : EO ds H H' := fun b o n h _ => e b o n h
theorem EB.e (e : Ex H H') : EB ds H H' := fun b o _ h => e b o h
theorem EB.tr (x : EB ds H H1) (y : EB ds H1 H2) : EB ds H H2 := fun b o n h => y b o n (x b o n h)
theorem EB.put {o : HO} (m : p ∈ ds) : EB ds H (upd H p o) := fun b u n h => (upd_ne (fun z => n (by rw [z]; exact m))).trans h
theorem EB.xb (e : ExB d H H') (m : d ∈ ds) : EB ds H H' := fun b o n h => e b o (fun z => n (z ▸ m)) h
theorem EB.sub (x : EB ds H H1) (m : ∀ d ∈ ds, d ∈ es) : EB es H H1 := fun b o n h => x b o (fun z => n (m b z)) h
theorem EB.tabs {T : List (Addr × Str)} (e : EB ds H H') (hd : ∀ d ∈ ds, (∃ xs, H d = some (.lst xs)) ∨ ∃ C dx fs, H d = some (.ins C dx fs)) (t : LamX.Tabs T H) : LamX.Tabs T H' := fun p hp => by
  obtain ⟨ps, h1, h2, h3⟩ := t p hp
  have ne : ∀ {b : Addr} {o : HO}, H b = some o → (∀ xs, o ≠ .lst xs) → (∀ C dx fs, o ≠ .ins C dx fs) → b ∉ ds := fun h n1 n2 m => by
    rcases hd _ m with ⟨xs, g⟩ | ⟨C, dx, fs, g⟩
    · rw [h] at g; injection g with g; exact n1 _ g
    · rw [h] at g; injection g with g; exact n2 _ _ _ g
  refine ⟨ps, e _ _ (ne h1 (fun _ z => nomatch z) fun _ _ _ z => nomatch z) h1, h2, fun pos cv hc => ?_⟩
  obtain ⟨c, e1, e2⟩ := h3 pos cv hc
  exact ⟨c, e1, e _ _ (ne e2 (fun _ z => nomatch z) fun _ _ _ z => nomatch z) e2⟩
end
end PB
namespace PB
open PySem PySem.Spec L2
theorem at_0 {α : Type} {x : α} {xs : List α} : atI (x :: xs) 0 = some x := atI_nat (j := 0) rfl
theorem at_1 {α : Type} {x y : α} {xs : List α} : atI (x :: y :: xs) 1 = some y := atI_nat (j := 1) rfl
theorem at_last {α : Type} {xs : List α} {v : α} (h : xs[xs.length - 1]? = some v) : atI xs (-1) = some v := by
  have hl : xs.length - 1 < xs.length := (List.getElem?_eq_some_iff.mp h).1
  have e : ixN xs.length (-1) = some (xs.length - 1) := by
    unfold ixN
    rw [if_neg (by decide), if_pos (by omega)]
    congr 1
    omega
  unfold atI
  rw [e]
  exact h
end PB
namespace PB
open PySem PySem.Spec L2
open PyProof.Rows hiding St
def rw2 (p : Int × Int) : List Int := [p.1, p.2]
section
variable {σ : St} {H : Hp} {Q : VK} {K : PySem.W.Frag} {tt : TT} {te : TE} {vs : List Nat} {j l : Nat}
/-- pairs, those that are kept, what is made of each -/
theorem c_rw2 {k : Sk} {a : Addr} {us : List V} {ps : List (Int × Int)} (h : k.at K H a us) (hr : Rws K H us (ps.map rw2)) (p : Int × Int → Bool) (f : Int × Int → Int) (hn : us.length < 16000000) (hw : ∀ x y, wipe (((wipe σ vs).set j (some x)).set l (some y)) vs = wipe σ vs)
    (turn : ∀ z H1 (q : VK) (N : Hp → Prop), z ∈ ps → Ex H H1 → (∀ H4, p z = true → Ex H1 H4 → q (.int (f z)) H4) → (∀ H3, p z = false → Ex H1 H3 → N H3) →
      tt (((wipe σ vs).set j (some (.int z.1))).set l (some (.int z.2))) H1 fun b H4 => if b = true then te (((wipe σ vs).set j (some (.int z.1))).set l (some (.int z.2))) H4 q else N H4)
    (done : ∀ L H', H L = none → Ex H H' → H' L = some (.lst (((ps.filter p).map f).map V.int)) → Q (.ref L) H') : sQ K (CQ (gTup K 2 (gCons (gName j) (gCons (gName l) gNil))) tt te vs σ Q) (.ref a) H := by
  have hl : us.length = ps.length := by rw [hr.length, List.length_map]
  refine s_S h (c_it walk_S hn (fun H' e => k.ex e h) (fun i acc _ => acc = ((((ps.take i).filter p).map f).map V.int)) (fun _ _ => rfl) (fun _ _ _ _ _ _ _ _ e => e) ?_ ?_)
  · rintro i x acc H1 H2 q N hi e1 e2 ⟨rfl, hx⟩ hq hN
    obtain ⟨r, h1, h2⟩ := hr.get hx
    rw [List.getElem?_map, Option.map_eq_some_iff] at h1
    obtain ⟨z, hz, rfl⟩ := h1
    obtain ⟨t, rfl, ht⟩ := h2.ex e1
    have hz' : i < ps.length := by omega
    have tk : ps.take (i + 1) = ps.take i ++ [z] := by
      rw [List.take_succ, hz]; rfl
    refine r_gtup ht rfl (r_gcons (r_gname (r_gcons (r_gname (r_gnil ?_)))))
    refine ⟨hw _ _, turn z H2 q N (List.mem_of_getElem? hz) e1 (fun H4 c e4 => hq _ H4 e4 ?_) fun H3 c e3 => hN H3 e3 ?_⟩
    · rw [tk, List.filter_append, List.filter_cons_of_pos c, List.filter_nil, List.map_append, List.map_append, e2]; rfl
    · rw [tk, List.filter_append, List.filter_cons_of_neg (by rw [c]; decide), List.filter_nil, List.append_nil, e2]
  · intro L acc H' h1 h2 h3 _ h5
    rw [h5, hl, List.take_length] at h3
    exact done L H' h1 h2 h3
end
section
variable {K : PySem.W.Frag} {H : Hp} {Q : VK} {a b : Addr} {vs ws : List V} {rs : List (List Int)}
theorem canLay_RT (rs : List (List Int)) : PyData.canLay0 (.tuple (rs.map fun r => .tuple (dI r))) = true := by
  simp only [PyData.canLay0]
  exact lay_R rs
theorem dep_RT (rs : List (List Int)) : PyData.depth (.tuple (rs.map fun r => .tuple (dI r))) ≤ 2 := by
  simp only [PyData.depth]
  have := dep_R rs
  omega
theorem sh_RT (rs : List (List Int)) : SeqAt.shaped (.tuple (rs.map fun r => .tuple (dI r))) = true := sh_of (canLay_RT rs) (by have := dep_RT rs; omega)
/-- alike tuples of rows -/
theorem r_neTR (h1 : SqT K H a vs) (h2 : SqT K H b ws) (r1 : Rws K H vs rs) (r2 : Rws K H ws rs) (q : Q (.bl false) H) : rNeA K (.ref a) (.ref b) H Q :=
  .inr ⟨_, _, .tup h1 r1.dp, .tup h2 r2.dp, sh_RT rs, sh_RT rs, by rw [eqv_refl _ (canLay_RT rs)]; exact q⟩
theorem r_maxL {ns : List Int} (h : SqL K H a (ns.map V.int)) (n : 0 < ns.length) (q : ∀ m, m ∈ ns → (∀ y, y ∈ ns → y ≤ m) → Q (.int m) H) : rMax K [.ref a] H Q := ⟨a, ns, rfl, h, n, q⟩
theorem r_told {T : List (Addr × Str)} {CS : Addr} {f w1 w2 : Str} {t : XK → TE} {σ : St} (hT : LamX.Tabs T H) (h : ∀ H1, ExN H H1 → LamX.Tabs T H1 →
    t (fun cls d H' => cls = .ref CS ∧ ∃ dd v, d = some dd ∧ H' dd = some (.xd [(f, v)]) ∧ [V.str w2, v].length ≤ sizeLine ∧ ∀ p, H' p = none → Q (.ref p) (upd H' p (.tup [.str w2, v]))) σ H1
      fun v H' => [V.str w1, v].length ≤ sizeLine ∧ ∀ p, H' p = none → Q (.ref p) (upd H' p (.tup [.str w1, v]))) : LamX.tLam T (TTtold CS f w1 w2) t σ H Q := ⟨hT, fun H1 e1 e2 => h H1 e1 e2⟩
end
end PB

/-! PS: what a walk knows of the heap, in two facts: what never changes stays (Le), what may change is told in one row (Wd). -/
namespace PB
open PySem PySem.Spec L2
open PyProof.Rows hiding St
def imm : HO → Bool
  | .tup _ | .ext _ | .rng _ _ | .met _ _ => true
  | _ => false
def mutO : HO → Bool
  | .lst _ | .dK _ | .dT _ | .set _ _ | .ins _ _ _ | .frz _ _ | .xd _ | .own _ => true
  | _ => false
/-- what never changes stays -/
structure Le (H H' : Hp) : Prop where
  le : ∀ a o, H a = some o → imm o = true → H' a = some o
theorem Le.refl (H : Hp) : Le H H := ⟨fun _ _ h _ => h⟩
theorem Le.trans {A B C : Hp} (x : Le A B) (y : Le B C) : Le A C := ⟨fun a o h i => y.le a o (x.le a o h i) i⟩
theorem Le.ex {H H' : Hp} (e : Ex H H') : Le H H' := ⟨fun a o h _ => e a o h⟩
theorem Le.exn {H H' : Hp} (e : ExN H H') : Le H H' := ⟨fun a o h i => e a o h fun ps z => by rw [z] at i; cases i⟩
/-- a tuple at a -/
structure Tu (H : Hp) (a : Addr) (xs : List V) : Prop where
  at' : H a = some (.tup xs)
theorem Tu.le {H H' : Hp} {a : Addr} {xs : List V} (h : Tu H a xs) (l : Le H H') : Tu H' a xs := ⟨l.le _ _ h.at' rfl⟩
theorem Tu.sq {K : PySem.W.Frag} {H : Hp} {a : Addr} {xs : List V} (h : Tu H a xs) : SqT K H a xs := sqT_of h.at'
abbrev En := Addr × (HO → Prop)
/-- the tables are right, and the things of L are there, each by itself -/
structure Wd (T : List (Addr × Str)) (H : Hp) (L : List En) : Prop where
  tabs : LamX.Tabs T H
  nd : (L.map Prod.fst).Nodup
  at' : ∀ p ∈ L, ∃ o, H p.1 = some o ∧ p.2 o ∧ mutO o = true
def isL (xs : List V) : HO → Prop := fun o => o = .lst xs
def isI (C : Addr) (fs : List (Str × V)) : HO → Prop := fun o => ∃ dx, o = .ins C dx fs
def isF (xs : List V) : HO → Prop := fun o => o = .lst xs ∨ ∃ ob, o = .frz ob (.lst xs)
def isDice (n : Nat) : HO → Prop := fun o => ∃ x y z : Int, o = .lst ([x, y, z].map V.int) ∧ 0 ≤ x ∧ 0 ≤ y ∧ y < 2147480009 ∧ 0 ≤ z ∧ z ≤ n
structure Sel (x : En) (L R : List En) : Prop where
  pm : L.Perm (x :: R)
theorem Sel.head {x : En} {L : List En} : Sel x (x :: L) L := ⟨.refl _⟩
theorem Sel.tail {x y : En} {L R : List En} (h : Sel x L R) : Sel x (y :: L) (y :: R) := ⟨(List.Perm.cons y h.pm).trans (.swap x y R)⟩
section
variable {T : List (Addr × Str)} {H H' : Hp} {L L' F R : List En} {a b d p : Addr} {φ ψ χ : HO → Prop} {K : PySem.W.Frag} {xs : List V} {Q : VK}
theorem Wd.perm (w : Wd T H L) (h : L.Perm L') : Wd T H L' := ⟨w.tabs, (h.map _).nodup_iff.mp w.nd, fun q hq => w.at' q (h.mem_iff.mpr hq)⟩
theorem Wd.sel (w : Wd T H L) {x : En} (s : Sel x L R) : Wd T H (x :: R) := w.perm s.pm
theorem Wd.sub (w : Wd T H L) (h : R.Sublist L) : Wd T H R := ⟨w.tabs, w.nd.sublist (h.map _), fun q hq => w.at' q (h.subset hq)⟩
theorem Wd.tail {x : En} (w : Wd T H (x :: L)) : Wd T H L := w.sub (List.sublist_cons_self _ _)
theorem Wd.get (w : Wd T H L) (s : Sel (a, φ) L R) : ∃ o, H a = some o ∧ φ o ∧ mutO o = true := w.at' (a, φ) (s.pm.mem_iff.mpr List.mem_cons_self)
theorem Wd.lst (w : Wd T H L) (s : Sel (a, isL xs) L R) : H a = some (.lst xs) := by
  obtain ⟨o, h, rfl, _⟩ := w.get s
  exact h
theorem Wd.sqL (w : Wd T H L) (s : Sel (a, isL xs) L R) : SqL K H a xs := sqL_of (w.lst s)
theorem Wd.sqF (w : Wd T H L) (s : Sel (a, isF xs) L R) : SqL K H a xs := by
  obtain ⟨o, h, h2 | ⟨ob, h2⟩, _⟩ := w.get s
  · rw [h2] at h
    exact sqL_of h
  · rw [h2] at h
    exact .inl (.inr ⟨ob, h⟩)
theorem Wd.ins {C : Addr} {fs : List (Str × V)} (w : Wd T H L) (s : Sel (a, isI C fs) L R) : ∃ dx, H a = some (.ins C dx fs) := by
  obtain ⟨o, h, ⟨dx, rfl⟩, _⟩ := w.get s
  exact ⟨dx, h⟩
theorem Wd.dice {n : Nat} (w : Wd T H L) (s : Sel (d, isDice n) L R) : Dice n H d := by
  obtain ⟨o, h, ⟨x, y, z, e, r⟩, _⟩ := w.get s
  exact ⟨x, y, z, e ▸ h, r⟩
theorem isDice.of {n : Nat} (h : Dice n H d) : ∃ o, H d = some o ∧ isDice n o ∧ mutO o = true := by
  obtain ⟨x, y, z, h, r⟩ := h
  exact ⟨_, h, ⟨x, y, z, rfl, r⟩, rfl⟩
theorem isDice.mono {m n : Nat} (h : m ≤ n) {o : HO} (k : isDice m o) : isDice n o := by
  obtain ⟨x, y, z, e, a, b, c, d, k⟩ := k
  exact ⟨x, y, z, e, a, b, c, d, by omega⟩
theorem Wd.weak (w : Wd T H ((a, φ) :: L)) (h : ∀ o, φ o → ψ o) : Wd T H ((a, ψ) :: L) := by
  refine ⟨w.tabs, w.nd, fun q hq => ?_⟩
  rcases List.mem_cons.mp hq with rfl | hq
  · obtain ⟨o, h1, h2, h3⟩ := w.at' (a, φ) List.mem_cons_self
    exact ⟨o, h1, h _ h2, h3⟩
  · exact w.at' q (List.mem_cons_of_mem _ hq)
theorem Wd.ex (w : Wd T H L) (e : Ex H H') : Wd T H' L := ⟨w.tabs.ext e, w.nd, fun q hq => by
  obtain ⟨o, h1, h2⟩ := w.at' q hq
  exact ⟨o, e _ _ h1, h2⟩⟩
theorem Wd.exn (w : Wd T H L) (e : ExN H H') (t : LamX.Tabs T H') : Wd T H' L := ⟨t, w.nd, fun q hq => by
  obtain ⟨o, h1, h2, h3⟩ := w.at' q hq
  exact ⟨o, e _ _ h1 (fun ps z => by rw [z] at h3; cases h3), h2, h3⟩⟩
theorem immut {o : HO} (i : imm o = true) (m : mutO o = true) : False := by
  cases o <;> first | exact Bool.noConfusion (show false = true from i) | exact Bool.noConfusion (show false = true from m)
/-- nothing changes but what stands in ds -/
theorem Wd.le (w : Wd T H L) (e : EO (L.map Prod.fst) H H') : Le H H' := ⟨fun a o h i => by
  by_cases c : a ∈ L.map Prod.fst
  · obtain ⟨q, hq, rfl⟩ := List.mem_map.mp c
    obtain ⟨u, h1, _, h3⟩ := w.at' q hq
    rw [h1] at h
    cases h
    exact (immut i h3).elim
  · exact e a o c h fun ps z => by rw [z] at i; cases i⟩
theorem Wd.tab (w : Wd T H L) (e : EB (L.map Prod.fst) H H') : LamX.Tabs T H' := by
  have key : ∀ (x : Addr) (o : HO), H x = some o → mutO o = false → H' x = some o := fun x o hx hm => e x o (fun c => by
    obtain ⟨q, hq, rfl⟩ := List.mem_map.mp c
    obtain ⟨u, h1, _, h3⟩ := w.at' q hq
    rw [h1] at hx
    cases hx
    rw [hm] at h3
    cases h3) hx
  intro q hq
  obtain ⟨ps, h1, h2, h3⟩ := w.tabs q hq
  refine ⟨ps, key _ _ h1 rfl, h2, fun pos cv hc => ?_⟩
  obtain ⟨c, e1, e2⟩ := h3 pos cv hc
  exact ⟨c, e1, key _ _ e2 rfl⟩
/-- one thing changes -/
theorem Wd.eo1 (w : Wd T H ((d, φ) :: F)) (e : EO [d] H H') (t : LamX.Tabs T H') (h : ∃ o, H' d = some o ∧ ψ o ∧ mutO o = true) : Wd T H' ((d, ψ) :: F) := by
  refine ⟨t, w.nd, fun q hq => ?_⟩
  rcases List.mem_cons.mp hq with rfl | hq
  · exact h
  · obtain ⟨o, h1, h2, h3⟩ := w.at' q (List.mem_cons_of_mem _ hq)
    have n : q.1 ∉ [d] := fun z => (List.nodup_cons.mp w.nd).1 (by
      have z := List.mem_singleton.mp z
      show d ∈ _
      rw [← z]
      exact List.mem_map_of_mem hq)
    exact ⟨o, e _ _ n h1 (fun ps z => by rw [z] at h3; cases h3), h2, h3⟩
theorem Le.eo1 (w : Wd T H ((d, φ) :: F)) (e : EO [d] H H') : Le H H' :=
  (w.sub (R := [(d, φ)]) (List.Sublist.cons₂ _ (List.nil_sublist _))).le e
theorem Wd.eb1 (w : Wd T H ((d, φ) :: F)) (e : EB [d] H H') (h : ∃ o, H' d = some o ∧ ψ o ∧ mutO o = true) : Wd T H' ((d, ψ) :: F) :=
  w.eo1 e.eo ((w.sub (R := [(d, φ)]) (List.Sublist.cons₂ _ (List.nil_sublist _))).tab e) h
theorem Wd.eo2 (w : Wd T H ((a, φ) :: (b, ψ) :: F)) (e : EO [a, b] H H') (t : LamX.Tabs T H') (h : ∃ o, H' a = some o ∧ χ o ∧ mutO o = true) {ω : HO → Prop} (k : ∃ o, H' b = some o ∧ ω o ∧ mutO o = true) : Wd T H' ((a, χ) :: (b, ω) :: F) := by
  refine ⟨t, w.nd, fun q hq => ?_⟩
  rcases List.mem_cons.mp hq with rfl | hq
  · exact h
  rcases List.mem_cons.mp hq with rfl | hq
  · exact k
  · obtain ⟨o, h1, h2, h3⟩ := w.at' q (List.mem_cons_of_mem _ (List.mem_cons_of_mem _ hq))
    have nd := List.nodup_cons.mp w.nd
    have n : q.1 ∉ [a, b] := fun z => by
      rcases List.mem_cons.mp z with z | z
      · exact nd.1 (by show a ∈ _; rw [← z]; exact List.mem_cons_of_mem _ (List.mem_map_of_mem hq))
      · have z := List.mem_singleton.mp z
        exact (List.nodup_cons.mp nd.2).1 (by show b ∈ _; rw [← z]; exact List.mem_map_of_mem hq)
    exact ⟨o, e _ _ n h1 (fun ps z => by rw [z] at h3; cases h3), h2, h3⟩
theorem two_sub : List.Sublist [(a, φ), (b, ψ)] ((a, φ) :: (b, ψ) :: F) := List.Sublist.cons₂ _ (List.Sublist.cons₂ _ (List.nil_sublist _))
theorem Le.eo2 (w : Wd T H ((a, φ) :: (b, ψ) :: F)) (e : EO [a, b] H H') : Le H H' := (w.sub (R := [(a, φ), (b, ψ)]) two_sub).le e
theorem Wd.eb2 (w : Wd T H ((a, φ) :: (b, ψ) :: F)) (e : EB [a, b] H H') (h : ∃ o, H' a = some o ∧ χ o ∧ mutO o = true) {ω : HO → Prop} (k : ∃ o, H' b = some o ∧ ω o ∧ mutO o = true) : Wd T H' ((a, χ) :: (b, ω) :: F) :=
  w.eo2 e.eo ((w.sub (R := [(a, φ), (b, ψ)]) two_sub).tab e) h k
theorem Wd.new {o : HO} (w : Wd T H L) (hp : H p = none) (m : mutO o = true) (h : φ o) : Wd T (upd H p o) ((p, φ) :: L) := by
  have w' := w.ex (Ex.new (o := o) hp)
  refine ⟨w'.tabs, List.nodup_cons.mpr ⟨fun c => ?_, w.nd⟩, fun q hq => ?_⟩
  · obtain ⟨q, hq, e⟩ := List.mem_map.mp c
    obtain ⟨u, h1, _⟩ := w.at' q hq
    rw [e, hp] at h1
    cases h1
  · rcases List.mem_cons.mp hq with rfl | hq
    · exact ⟨o, upd_same, h, m⟩
    · exact w'.at' q hq
theorem Wd.put {o : HO} (w : Wd T H ((d, φ) :: F)) (m : mutO o = true) (h : ψ o) : Wd T (upd H d o) ((d, ψ) :: F) := w.eb1 (EB.put List.mem_cons_self) ⟨o, upd_same, h, m⟩
theorem Wd.put_le {o : HO} (w : Wd T H ((d, φ) :: F)) : Le H (upd H d o) := Le.eo1 w (EB.put List.mem_cons_self).eo
theorem Wd.ne (w : Wd T H ((a, φ) :: (b, ψ) :: F)) : a ≠ b := fun z => (List.nodup_cons.mp w.nd).1 (by rw [z]; exact List.mem_cons_self)
theorem Wd.free (w : Wd T H L) (s : Sel (a, φ) L R) (hp : H p = none) : a ≠ p := fun z => by
  obtain ⟨o, h, _⟩ := w.get s
  rw [z, hp] at h
  cases h
end
/-! ### data that stays -/
mutual
inductive Pd (H : Hp) : V → PyData → Prop
  | non : Pd H .non .none
  | bl (b : Bool) : Pd H (.bl b) (.bool b)
  | int (i : Int) : Pd H (.int i) (.int i)
  | str (x : Str) : Pd H (.str x) (.str x)
  | tup {a : Addr} {xs : List V} {ds : List PyData} : Tu H a xs → PdA H xs ds → Pd H (.ref a) (.tuple ds)
inductive PdA (H : Hp) : List V → List PyData → Prop
  | nil : PdA H [] []
  | cons {v : V} {vs : List V} {d : PyData} {ds : List PyData} : Pd H v d → PdA H vs ds → PdA H (v :: vs) (d :: ds)
end
mutual
theorem Pd.le {H H' : Hp} : ∀ {p : PyData} {v : V}, Pd H v p → Le H H' → Pd H' v p
  | .none, _, .non, _ => .non
  | .bool _, _, .bl b, _ => .bl b
  | .int _, _, .int i, _ => .int i
  | .str _, _, .str x, _ => .str x
  | .tuple _, _, .tup h k, l => .tup (h.le l) (k.le l)
theorem PdA.le {H H' : Hp} : ∀ {ds : List PyData} {vs : List V}, PdA H vs ds → Le H H' → PdA H' vs ds
  | [], _, .nil, _ => .nil
  | _ :: _, _, .cons h k, l => .cons (h.le l) (k.le l)
end
mutual
theorem Pd.dp {K : PySem.W.Frag} {H : Hp} : ∀ {p : PyData} {v : V}, Pd H v p → Dp K H v p
  | .none, _, .non => .non
  | .bool _, _, .bl b => .bl b
  | .int _, _, .int i => .int i
  | .str _, _, .str x => .str x
  | .tuple _, _, .tup h k => .tup h.sq k.dp
theorem PdA.dp {K : PySem.W.Frag} {H : Hp} : ∀ {ds : List PyData} {vs : List V}, PdA H vs ds → DpAll K H vs ds
  | [], _, .nil => .nil
  | _ :: _, _, .cons h k => .cons h.dp k.dp
end
section
variable {H : Hp} {vs ws : List V} {ds es : List PyData} {v : V} {p : PyData}
theorem PdA.length (h : PdA H vs ds) : vs.length = ds.length := DpA.length (K := default) h.dp
theorem PdA.append : ∀ {vs : List V} {ds : List PyData}, PdA H vs ds → PdA H ws es → PdA H (vs ++ ws) (ds ++ es)
  | _, _, .nil, k => k
  | _, _, .cons h t, k => .cons h (t.append k)
theorem PdA.snoc (h : PdA H vs ds) (k : Pd H v p) : PdA H (vs ++ [v]) (ds ++ [p]) := h.append (.cons k .nil)
theorem PdA.get : ∀ {vs : List V} {ds : List PyData}, PdA H vs ds → ∀ {i : Nat} {v : V}, vs[i]? = some v → ∃ p, ds[i]? = some p ∧ Pd H v p
  | _, _, .nil, i, v, e => by simp at e
  | _, _, .cons h k, 0, v, e => by
    simp only [List.getElem?_cons_zero, Option.some.injEq] at e ⊢
    exact ⟨_, rfl, e ▸ h⟩
  | _, _, .cons h k, i + 1, v, e => by
    simp only [List.getElem?_cons_succ] at e ⊢
    exact k.get e
theorem PdA.at : ∀ {vs : List V} {ds : List PyData}, PdA H vs ds → ∀ {i : Nat} {p : PyData}, ds[i]? = some p → ∃ v, vs[i]? = some v ∧ Pd H v p
  | _, _, .nil, i, v, e => by simp at e
  | _, _, .cons h k, 0, v, e => by
    simp only [List.getElem?_cons_zero, Option.some.injEq] at e ⊢
    exact ⟨_, rfl, e ▸ h⟩
  | _, _, .cons h k, i + 1, v, e => by
    simp only [List.getElem?_cons_succ] at e ⊢
    exact k.at e
theorem PdA.drop : ∀ {vs : List V} {ds : List PyData} (n : Nat), PdA H vs ds → PdA H (vs.drop n) (ds.drop n)
  | _, _, 0, h => h
  | _, _, _ + 1, .nil => .nil
  | _, _, n + 1, .cons _ k => k.drop n
theorem PdA.take : ∀ {vs : List V} {ds : List PyData} (n : Nat), PdA H vs ds → PdA H (vs.take n) (ds.take n)
  | _, _, 0, h => .nil
  | _, _, _ + 1, .nil => .nil
  | _, _, n + 1, .cons h k => .cons h (k.take n)
theorem PdA.mem (h : PdA H vs ds) (m : v ∈ vs) : ∃ p, p ∈ ds ∧ Pd H v p := by
  obtain ⟨i, e⟩ := List.getElem?_of_mem m
  obtain ⟨p, e1, e2⟩ := h.get e
  exact ⟨p, List.mem_of_getElem? e1, e2⟩
theorem Pd.isTy {K : PySem.W.Frag} (h : Pd H v p) : IsTy K H v (tyD p) := Dp.ty h.dp
theorem pd_ints : ∀ ns : List Int, PdA H (ns.map V.int) (dI ns)
  | [] => .nil
  | n :: ns => .cons (.int n) (pd_ints ns)
theorem Pd.tu (h : Pd H (.ref a) (.tuple ds)) : ∃ us, Tu H a us ∧ PdA H us ds := by
  cases h with
  | tup h k => exact ⟨_, h, k⟩
theorem Pd.tupV (h : Pd H v (.tuple ds)) : ∃ a us, v = .ref a ∧ Tu H a us ∧ PdA H us ds := by
  cases h with
  | tup h k => exact ⟨_, _, rfl, h, k⟩
theorem Pd.intV {i : Int} (h : Pd H v (.int i)) : v = .int i := by cases h; rfl
theorem Pd.strV {x : Str} (h : Pd H v (.str x)) : v = .str x := by cases h; rfl
theorem Pd.blV {b : Bool} (h : Pd H v (.bool b)) : v = .bl b := by cases h; rfl
end
/-! ### readings -/
section
variable {T : List (Addr × Str)} {H : Hp} {L F R : List En} {a b d : Addr} {φ ψ : HO → Prop} {K : PySem.W.Frag} {xs ys : List V} {Q : VK} {σ : St}
/-- the tail of a reading that makes a new thing -/
theorem n_newT {N : Addr → Hp → Prop} (w : Wd T H L) (q : ∀ p H', Le H H' → Wd T H' L → Tu H' p xs → N p H') : ∀ p, H p = none → N p (upd H p (.tup xs)) :=
  fun p hp => q p _ (Le.ex (Ex.new hp)) (w.ex (Ex.new hp)) ⟨upd_same⟩
theorem n_newL {N : Addr → Hp → Prop} (w : Wd T H L) (q : ∀ p H', Le H H' → Wd T H' ((p, isL xs) :: L) → N p H') : ∀ p, H p = none → N p (upd H p (.lst xs)) :=
  fun p hp => q p _ (Le.ex (Ex.new hp)) (w.new hp rfl rfl)
/-- a new tuple, list, object; a field set: what is left to ask -/
def NT (xs : List V) (H : Hp) (Q : VK) : Prop := xs.length ≤ sizeLine ∧ ∀ p, H p = none → Q (.ref p) (upd H p (.tup xs))
def NL (xs : List V) (H : Hp) (Q : VK) : Prop := xs.length ≤ sizeLine ∧ ∀ p, H p = none → Q (.ref p) (upd H p (.lst xs))
def NM (C : Addr) (sp : Sp) (vs : List V) (H : Hp) (Q : VK) (E : XK) : Prop := ∀ x dx, H x = none → H dx = none → dx ≠ x → sp (.ref x :: vs) (upd (upd H dx (.own x)) x (.ins C dx [])) (fun v H2 => v = .non ∧ Q (.ref x) H2) E
def NF (K : PySem.W.Frag) (x : V) (f : Str) (y : V) (H : Hp) (N : Hp → Prop) : Prop := ∃ a C dx fs, x = .ref a ∧ H a = some (.ins C dx fs) ∧ Cls K C ∧ NoAttr K C f ∧ fs.length < 1000 ∧ N (upd H a (.ins C dx (putF f y fs)))
theorem r_tupN {tr : TA} (h : tr σ H fun xs H1 => NT xs H1 Q) : tTup tr σ H Q := h
theorem r_lstN {tr : TA} (h : tr σ H fun xs H1 => NL xs H1 Q) : tLst tr σ H Q := h
theorem r_makeN {C : Addr} {sp : Sp} {E : XK} {t : TA} (h : t σ H fun vs H1 => NM C sp vs H1 Q E) : tMake C sp [] E t σ H Q := r_make h
def NMK (C : Addr) (sp : Sp) (args : Addr → List V) (H : Hp) (Q : VK) (E : XK) : Prop := ∀ x dx, H x = none → H dx = none → dx ≠ x → sp (args x) (upd (upd H dx (.own x)) x (.ins C dx [])) (fun v H2 => v = .non ∧ Q (.ref x) H2) E
theorem r_makeKN {C : Addr} {sp : Sp} {gV : List V → List V → List V} {E : XK} {t tk : TA} {n : Nat} (h : t σ H fun vs H1 => tk σ H1 fun zs H2 => vs.length = 0 ∧ zs.length = n ∧ NMK C sp (fun x => gV (.ref x :: vs) zs) H2 Q E) : tMakeK C 0 n sp gV E t tk σ H Q := r_makeK h
theorem n_kw {zs : List V} {n : Nat} {R : Prop} (h : zs.length = n) (q : R) : zs.length = n ∧ R := ⟨h, q⟩
theorem n_makeK {C : Addr} {sp : Sp} {args : Addr → List V} {E : XK} (w : Wd T H L) (q : ∀ x H', Le H H' → Wd T H' ((x, isI C []) :: L) → sp (args x) H' (fun v H2 => v = .non ∧ Q (.ref x) H2) E) : NMK C sp args H Q E := by
  intro x dx hx hdx ne
  have hx' : upd H dx (.own x) x = none := (upd_ne ne.symm).trans hx
  exact q x _ (Le.ex ((Ex.new hdx).trans (Ex.new hx'))) ((w.ex (Ex.new hdx)).new hx' rfl ⟨dx, rfl⟩)
theorem r_sfldN {ta tv : TE} {f : Str} {D : Ends} (h : tv σ H fun y H1 => ta σ H1 fun x H2 => NF K x f y H2 (fun H' => D.nx σ H')) : sFld K ta tv f D σ H := h
theorem n_tup (w : Wd T H L) (hl : Nat.ble xs.length sizeLine = true) (q : ∀ p H', Le H H' → Wd T H' L → Tu H' p xs → Q (.ref p) H') : NT xs H Q :=
  ⟨Nat.le_of_ble_eq_true hl, n_newT (N := fun p H2 => Q (.ref p) H2) w q⟩
theorem n_lst (w : Wd T H L) (hl : Nat.ble xs.length sizeLine = true) (q : ∀ p H', Le H H' → Wd T H' ((p, isL xs) :: L) → Q (.ref p) H') : NL xs H Q :=
  ⟨Nat.le_of_ble_eq_true hl, n_newL (N := fun p H2 => Q (.ref p) H2) w q⟩
/-- tuple(a list) -/
theorem n_tupL (w : Wd T H L) (s : Sel (a, isL xs) L R) (q : ∀ p H', Le H H' → Wd T H' L → Tu H' p xs → Q (.ref p) H') : rTupA K [V.ref a] H Q := r_tupL (w.sqL s) (n_newT (N := fun p H2 => Q (.ref p) H2) w q)
theorem n_tupT (h : Tu H a xs) (q : Q (.ref a) H) : rTupA K [V.ref a] H Q := r_tupT h.sq q
theorem n_listL (w : Wd T H L) (s : Sel (a, isL xs) L R) (q : ∀ p H', Le H H' → Wd T H' ((p, isL xs) :: L) → Q (.ref p) H') : rListA K [V.ref a] H Q := r_listL (w.sqL s) (n_newL (N := fun p H2 => Q (.ref p) H2) w q)
theorem n_listT (w : Wd T H L) (h : Tu H a xs) (q : ∀ p H', Le H H' → Wd T H' ((p, isL xs) :: L) → Q (.ref p) H') : rListA K [V.ref a] H Q := r_listT h.sq (n_newL (N := fun p H2 => Q (.ref p) H2) w q)
theorem n_slL {lo hi : Option Int} (w : Wd T H L) (s : Sel (a, isL xs) L R) (q : ∀ p H', Le H H' → Wd T H' ((p, isL (cutV xs lo hi)) :: L) → Q (.ref p) H') : rSlcA K (.ref a) lo hi H Q := r_slL (w.sqL s) (n_newL (N := fun p H2 => Q (.ref p) H2) w q)
theorem n_catL (w : Wd T H L) (s : Sel (a, isL xs) L R) (t : Sel (b, isL ys) L F) (n : xs.length + ys.length ≤ sizeLine) (q : ∀ p H', Le H H' → Wd T H' ((p, isL (xs ++ ys)) :: L) → Q (.ref p) H') : rAddA K (.ref a) (.ref b) H Q :=
  r_catL (w.lst s) (w.lst t) n (n_newL (N := fun p H2 => Q (.ref p) H2) w q)
theorem n_catI {ns ms : List Int} (w : Wd T H L) (s : Sel (a, isL xs) L R) (t : Sel (b, isL ys) L F) (e1 : xs = ns.map V.int) (e2 : ys = ms.map V.int) (n : ns.length + ms.length ≤ 1000000) (q : ∀ p H', Le H H' → Wd T H' ((p, isL ((ns ++ ms).map V.int)) :: L) → Q (.ref p) H') : rAddA K (.ref a) (.ref b) H Q :=
  n_catL w s t (by rw [e1, e2, List.length_map, List.length_map]; exact Nat.le_trans n (by decide)) fun p H' l w => q p H' l (by rw [List.map_append, ← e1, ← e2]; exact w)
theorem n_eqB {x y : Bool} (q : Q (.bl (decide (x = y))) H) : rEqA K (.bl x) (.bl y) H Q := .inl ⟨rfl, by
  rw [show decide (V.bl x = V.bl y) = decide (x = y) by cases x <;> cases y <;> rfl]
  exact q⟩
theorem n_ixL {i : Int} {v : V} (w : Wd T H L) (s : Sel (a, isL xs) L R) (e : atI xs i = some v) (q : Q v H) : rIxA K (.ref a) (.int i) H Q := r_ixL (w.sqL s) e q
theorem n_ixT {i : Int} {v : V} (h : Tu H a xs) (e : atI xs i = some v) (q : Q v H) : rIxA K (.ref a) (.int i) H Q := r_ixT h.sq e q
theorem n_lenL (w : Wd T H L) (s : Sel (a, isL xs) L R) (q : Q (.int xs.length) H) : rLenA K [V.ref a] H Q := r_lenL (w.sqL s) q
theorem n_lenT (h : Tu H a xs) (q : Q (.int xs.length) H) : rLenA K [V.ref a] H Q := r_lenT h.sq q
theorem n_tyL {R' : Prop} (w : Wd T H L) (s : Sel (a, isL xs) L R) (q : R') : tyV K "list" (.ref a) H ∧ R' := ⟨.inl ⟨rfl, _, w.sqL s⟩, q⟩
theorem n_app {v : V} (w : Wd T H L) (s : Sel (a, isL xs) L R) (n : xs.length < sizeLine) (q : ∀ H', Le H H' → Wd T H' ((a, isL (xs ++ [v])) :: R) → Q .non H') : rAppend (.ref a) [v] H Q :=
  r_app (w.lst s) n (q _ (w.sel s).put_le ((w.sel s).put rfl rfl))
theorem n_appI {n : Int} {ns : List Int} (w : Wd T H L) (s : Sel (a, isL (ns.map V.int)) L R) (l : ns.length < 1000000) (q : ∀ H', Le H H' → Wd T H' ((a, isL ((ns ++ [n]).map V.int)) :: R) → Q .non H') : rAppend (.ref a) [.int n] H Q :=
  n_app w s (by rw [List.length_map]; exact Nat.lt_of_lt_of_le l (by decide)) fun H' l w => q H' l (by rw [List.map_append]; exact w)
theorem n_lenI {ns : List Int} (w : Wd T H L) (s : Sel (a, isL (ns.map V.int)) L R) (q : Q (.int ns.length) H) : rLenA K [V.ref a] H Q := r_lenLI (w.sqL s) q
theorem n_ixI {ns : List Int} {i : Nat} {n : Int} (w : Wd T H L) (s : Sel (a, isL (ns.map V.int)) L R) (e : ns[i]? = some n) (q : Q (.int n) H) : rIxA K (.ref a) (.int (i : Nat)) H Q := r_ixLI (w.sqL s) e q
theorem n_setL {i : Nat} {v : V} {Q : Hp → Prop} (w : Wd T H L) (s : Sel (a, isL xs) L R) (n : i < xs.length) (q : ∀ H', Le H H' → Wd T H' ((a, isL (xs.set i v)) :: R) → Q H') : rSetL (.ref a) (.int (i : Nat)) v H Q :=
  r_setL (w.lst s) n (q _ (w.sel s).put_le ((w.sel s).put rfl rfl))
/-- a field read, a field set -/
theorem n_fld {f : Str} {C : Addr} {fs : List (Str × V)} {v : V} {R' : V → Prop} (w : Wd T H L) (s : Sel (a, isI C fs) L R) (cl : Cls K C) (na : NoAttr K C f) (hf : fs.lookup f = some v) (q : R' v) :
    ∃ a' D dx fs v, V.ref a = .ref a' ∧ H a' = some (.ins D dx fs) ∧ Cls K D ∧ NoAttr K D f ∧ fs.lookup f = some v ∧ R' v := by
  obtain ⟨dx, h⟩ := w.ins s
  exact ⟨a, C, dx, fs, v, rfl, h, cl, na, hf, q⟩
theorem n_sfld {f : Str} {C : Addr} {fs : List (Str × V)} {v : V} {N : Hp → Prop} (w : Wd T H L) (s : Sel (a, isI C fs) L R) (cl : Cls K C) (na : NoAttr K C f) (hn : Nat.blt fs.length 1000 = true) (q : ∀ H', Le H H' → Wd T H' ((a, isI C (putF f v fs)) :: R) → N H') :
    NF K (.ref a) f v H N := by
  obtain ⟨dx, h⟩ := w.ins s
  exact ⟨a, C, dx, fs, rfl, h, cl, na, Nat.le_of_ble_eq_true hn, q _ (w.sel s).put_le ((w.sel s).put rfl ⟨dx, rfl⟩)⟩
theorem n_meth {m : Str} {C : Addr} {fs : List (Str × V)} {R' : Prop} (w : Wd T H L) (s : Sel (a, isI C fs) L R) (hf : fs.lookup m = none) (q : R') : ∃ a' dx fs, V.ref a = .ref a' ∧ H a' = some (.ins C dx fs) ∧ fs.lookup m = none ∧ R' := by
  obtain ⟨dx, h⟩ := w.ins s
  exact ⟨a, dx, fs, rfl, h, hf, q⟩
theorem n_prop {C : Addr} {fs : List (Str × V)} {R' : Addr → Prop} (w : Wd T H L) (s : Sel (a, isI C fs) L R) (q : R' a) : ∃ a' dx fs, V.ref a = .ref a' ∧ H a' = some (.ins C dx fs) ∧ R' a' := by
  obtain ⟨dx, h⟩ := w.ins s
  exact ⟨a, dx, fs, rfl, h, q⟩
/-- a new object: its __init__ is asked -/
theorem n_make {C : Addr} {sp : Sp} {vs : List V} {E : XK} (w : Wd T H L) (q : ∀ x H', Le H H' → Wd T H' ((x, isI C []) :: L) → sp (.ref x :: vs) H' (fun v H2 => v = .non ∧ Q (.ref x) H2) E) : NM C sp vs H Q E := by
  intro x dx hx hdx ne
  have hx' : upd H dx (.own x) x = none := (upd_ne ne.symm).trans hx
  exact q x _ (Le.ex ((Ex.new hdx).trans (Ex.new hx'))) ((w.ex (Ex.new hdx)).new hx' rfl ⟨dx, rfl⟩)
/-- what a refused call leaves -/
def Refuse (T : List (Addr × Str)) (L : List En) (C : Addr) (f n : Str) (H : Hp) (E : XK) : Prop := ∀ d H', Le H H' → Wd T H' L → H' d = some (.xd [(f, .str n)]) → E (.ref C) (some d) H'
theorem Refuse.le {C : Addr} {f n : Str} {E : XK} {H' : Hp} (h : Refuse T L C f n H E) (l : Le H H') : Refuse T L C f n H' E := fun d H2 l2 w a => h d H2 (l.trans l2) w a
theorem Refuse.old {C : Addr} {f n : Str} {E : XK} (w : Wd T H L) (h : Refuse T L C f n H E) : ∀ d H', H d = none → Ex H H' → H' d = some (.xd [(f, .str n)]) → E (.ref C) (some d) H' := fun d H' _ e a => h d H' (Le.ex e) (w.ex e) a
theorem n_mkQ {C : Addr} {f : Str} {R : XK} {y : V} (w : Wd T H L) (h : ∀ d H', Le H H' → Wd T H' L → H' d = some (.xd [(f, y)]) → R (.ref C) (some d) H') : mkQ C f R y H :=
  r_mkQ fun d H' _ e a => h d H' (Le.ex e) (w.ex e) a
/-- a lambda called where a refusal is caught -/
theorem n_ref {CS : Addr} {f ret : Str} {t : XK → TE} (w : Wd T H L) (h : ∀ H1, Le H H1 → Wd T H1 L → t (fun cls d H' => cls = .ref CS ∧ ∃ dd v, d = some dd ∧ H' dd = some (.xd [(f, v)]) ∧ Q v H') σ H1 fun _ H' => Q (.str ret) H') : LamX.tLam T (TTref CS f ret) t σ H Q :=
  r_ref w.tabs fun H1 e t1 => h H1 (Le.exn e) (w.exn e t1)
theorem n_told {CS : Addr} {f w1 w2 : Str} {t : XK → TE} (w : Wd T H L)
    (h : ∀ H1, Le H H1 → Wd T H1 L → t (fun cls d H' => cls = .ref CS ∧ ∃ dd v, d = some dd ∧ H' dd = some (.xd [(f, v)]) ∧ NT [V.str w2, v] H' Q) σ H1 fun v H' => NT [V.str w1, v] H' Q) :
    LamX.tLam T (TTtold CS f w1 w2) t σ H Q := r_told w.tabs fun H1 e t1 => h H1 (Le.exn e) (w.exn e t1)
theorem Refuse.caught {C : Addr} {f n : Str} {M : V → Hp → Prop} (h : ∀ H', Le H H' → Wd T H' L → M (.str n) H') : Refuse T L C f n H (fun cls d H' => cls = .ref C ∧ ∃ dd v, d = some dd ∧ H' dd = some (.xd [(f, v)]) ∧ M v H') :=
  fun d H' l w a => ⟨rfl, d, _, rfl, a, h H' l w⟩
theorem r_int1B {c : Bool} (q : Q (.int (if c then 1 else 0)) H) : rInt1A [V.bl c] H Q := .inr ⟨c, rfl, q⟩
/-- data compared -/
theorem n_eq {v u : V} {p q : PyData} (h1 : Dp K H v p) (h2 : Dp K H u q) (s1 : SeqAt.shaped p = true) (s2 : SeqAt.shaped q = true) (k : Q (.bl (PyData.eqv p q)) H) : rEqA K v u H Q := r_eqE h1 h2 s1 s2 k
theorem n_ne {v u : V} {p q : PyData} (h1 : Dp K H v p) (h2 : Dp K H u q) (s1 : SeqAt.shaped p = true) (s2 : SeqAt.shaped q = true) (k : Q (.bl (!PyData.eqv p q)) H) : rNeA K v u H Q := r_neE h1 h2 s1 s2 k
theorem n_eqT {v u : V} {p q : PyData} (h1 : Dp K H v p) (h2 : Dp K H u q) (s1 : SeqAt.shaped p = true) (s2 : SeqAt.shaped q = true) (e : PyData.eqv p q = true) (k : Q (.bl true) H) : rEqA K v u H Q := r_eqE h1 h2 s1 s2 (e ▸ k)
theorem n_eqF {v u : V} {p q : PyData} (h1 : Dp K H v p) (h2 : Dp K H u q) (s1 : SeqAt.shaped p = true) (s2 : SeqAt.shaped q = true) (e : PyData.eqv p q = false) (k : Q (.bl false) H) : rEqA K v u H Q := r_eqE h1 h2 s1 s2 (e ▸ k)
theorem n_neF {v u : V} {p q : PyData} (h1 : Dp K H v p) (h2 : Dp K H u q) (s1 : SeqAt.shaped p = true) (s2 : SeqAt.shaped q = true) (e : PyData.eqv p q = true) (k : Q (.bl false) H) : rNeA K v u H Q := r_neE h1 h2 s1 s2 (by rw [e]; exact k)
theorem n_neT {v u : V} {p q : PyData} (h1 : Dp K H v p) (h2 : Dp K H u q) (s1 : SeqAt.shaped p = true) (s2 : SeqAt.shaped q = true) (e : PyData.eqv p q = false) (k : Q (.bl true) H) : rNeA K v u H Q := r_neE h1 h2 s1 s2 (by rw [e]; exact k)
end
theorem at_2 {α : Type} {x y z : α} {xs : List α} : atI (x :: y :: z :: xs) 2 = some z := atI_nat (j := 2) rfl
theorem at_3 {α : Type} {x y z u : α} {xs : List α} : atI (x :: y :: z :: u :: xs) 3 = some u := atI_nat (j := 3) rfl
theorem Wd.fresh {T : List (Addr × Str)} {H : Hp} {L : List En} {p : Addr} (w : Wd T H L) (hp : H p = none) : p ∉ L.map Prod.fst := fun c => by
  obtain ⟨q, hq, e⟩ := List.mem_map.mp c
  obtain ⟨u, h1, _⟩ := w.at' q hq
  rw [e, hp] at h1
  cases h1
theorem Wd.cons {T : List (Addr × Str)} {H : Hp} {L : List En} {p : Addr} {φ : HO → Prop} (w : Wd T H L) (n : p ∉ L.map Prod.fst) (h : ∃ o, H p = some o ∧ φ o ∧ mutO o = true) : Wd T H ((p, φ) :: L) := by
  refine ⟨w.tabs, List.nodup_cons.mpr ⟨n, w.nd⟩, fun q hq => ?_⟩
  rcases List.mem_cons.mp hq with rfl | hq
  · exact h
  · exact w.at' q hq
theorem Wd.swap {T : List (Addr × Str)} {H : Hp} {L : List En} {x y : En} (w : Wd T H (x :: y :: L)) : Wd T H (y :: x :: L) := w.perm (.swap y x L)
/-- part of the row -/
structure Pk (L R : List En) : Prop where
  pk : ∃ G, L.Perm (G ++ R)
theorem Pk.id {L : List En} : Pk L L := ⟨[], .refl _⟩
theorem Pk.nil {L : List En} : Pk L [] := ⟨L, by rw [List.append_nil]⟩
theorem Pk.cons {x : En} {L R F : List En} (s : Sel x L R) (h : Pk R F) : Pk L (x :: F) := by
  obtain ⟨G, h⟩ := h
  exact ⟨G, (s.pm.trans (List.Perm.cons x h)).trans List.perm_middle.symm⟩
theorem Pk.drop {x : En} {L R : List En} (h : Pk L R) : Pk (x :: L) R := by
  obtain ⟨G, h⟩ := h
  exact ⟨x :: G, List.Perm.cons x h⟩
theorem Wd.pk {T : List (Addr × Str)} {H : Hp} {L R : List En} (w : Wd T H L) (h : Pk L R) : Wd T H R := by
  obtain ⟨G, h⟩ := h
  exact (w.perm h).sub (List.sublist_append_right _ _)
/-! ### comprehensions -/
section
variable {J : It} {n : Nat} {G : Hp → Prop} {Y : Nat → Hp → V → Hp → Prop} {g : TG} {tt : TT} {te : TE} {vs : List Nat} {σ : St} {Q : VK} {T : List (Addr × Str)} {H : Hp} {F : List En}
theorem c_wd (w : Walk J n G Y) (hn : n < 16000000) (w0 : Wd T H F) (Φ : Nat → List V → List En → Hp → Prop) (mono : ∀ i acc F1 H1 H2, Φ i acc F1 H1 → Le H1 H2 → Φ i acc F1 H2) (h0 : Φ 0 [] F H)
    (hG : ∀ i L us F1 H1, i ≤ n → Le H H1 → Wd T H1 ((L, isL us) :: F1) → Φ i us F1 H1 → G H1)
    (turn : ∀ i x L us F1 H1 H2 (q : VK) (N : Hp → Prop), i < n → Le H H1 → Wd T H1 ((L, isL us) :: F1) → Φ i us F1 H1 → Y i H1 x H2 →
      (∀ y F2 H4, Le H1 H4 → Wd T H4 ((L, isL us) :: F2) → Φ (i + 1) (us ++ [y]) F2 H4 → q y H4) → (∀ F2 H3, Le H1 H3 → Wd T H3 ((L, isL us) :: F2) → Φ (i + 1) us F2 H3 → N H3) →
      g x (wipe σ vs) H2 fun σ2 H3 => wipe σ2 vs = wipe σ vs ∧ tt σ2 H3 fun b H4 => if b = true then te σ2 H4 q else N H4)
    (done : ∀ L us F1 H', Le H H' → Wd T H' ((L, isL us) :: F1) → us.length ≤ n → Φ n us F1 H' → Q (.ref L) H') : CQ g tt te vs σ Q J H := by
  intro L hL
  refine lc_it w (fun i H' => ∃ us F1, Le H H' ∧ Wd T H' ((L, isL us) :: F1) ∧ us.length ≤ i ∧ Φ i us F1 H') ⟨[], F, Le.ex (Ex.new hL), w0.new hL rfl rfl, Nat.le_refl _, mono _ _ _ _ _ h0 (Le.ex (Ex.new hL))⟩ (fun i H' hi p => ?_) ?_ ?_
  · obtain ⟨us, F1, l, w1, _, f⟩ := p
    exact hG i L us F1 H' hi l w1 f
  · rintro i x H1 H2 hi ⟨us, F1, l, w1, lu, f⟩ y
    refine turn i x L us F1 H1 H2 _ _ hi l w1 f y (fun z F2 H4 l4 w4 f4 => ⟨us, w4.lst .head, ?_, us ++ [z], F2, ?_, ?_, ?_, ?_⟩) fun F2 H3 l3 w3 f3 => ⟨us, F2, l.trans l3, w3, Nat.le_succ_of_le lu, f3⟩
    · exact Nat.lt_of_le_of_lt lu (Nat.lt_of_lt_of_le hi (Nat.le_trans (Nat.le_of_lt hn) (by decide)))
    · exact (l.trans l4).trans w4.put_le
    · exact w4.put rfl rfl
    · rw [List.length_append, List.length_singleton]; omega
    · exact mono _ _ _ _ _ f4 w4.put_le
  · rintro H' ⟨us, F1, l, w1, lu, f⟩
    exact done L us F1 H' l w1 lu f
/-- elements that are known data -/
theorem c_pd (w : Walk J n G Y) (hn : n < 16000000) (w0 : Wd T H F) (Φ : Nat → List PyData → List En → Prop) (h0 : Φ 0 [] F)
    (hG : ∀ i L us ds F1 H1, i ≤ n → Le H H1 → Wd T H1 ((L, isL us) :: F1) → Φ i ds F1 → G H1)
    (turn : ∀ i x L us ds F1 H1 H2 (q : VK) (N : Hp → Prop), i < n → Le H H1 → Wd T H1 ((L, isL us) :: F1) → Φ i ds F1 → Y i H1 x H2 →
      (∀ y e F2 H4, Le H1 H4 → Wd T H4 ((L, isL us) :: F2) → Pd H4 y e → Φ (i + 1) (ds ++ [e]) F2 → q y H4) → (∀ F2 H3, Le H1 H3 → Wd T H3 ((L, isL us) :: F2) → Φ (i + 1) ds F2 → N H3) →
      g x (wipe σ vs) H2 fun σ2 H3 => wipe σ2 vs = wipe σ vs ∧ tt σ2 H3 fun b H4 => if b = true then te σ2 H4 q else N H4)
    (done : ∀ L us ds F1 H', Le H H' → Wd T H' ((L, isL us) :: F1) → us.length ≤ n → PdA H' us ds → Φ n ds F1 → Q (.ref L) H') : CQ g tt te vs σ Q J H := by
  refine c_wd w hn w0 (fun i us F1 H1 => ∃ ds, PdA H1 us ds ∧ Φ i ds F1) (fun i acc F1 H1 H2 f l => ?_) ⟨[], .nil, h0⟩ (fun i L us F1 H1 hi l w1 f => ?_) ?_ ?_
  · obtain ⟨ds, h, f⟩ := f
    exact ⟨ds, h.le l, f⟩
  · obtain ⟨ds, h, f⟩ := f
    exact hG i L us ds F1 H1 hi l w1 f
  · rintro i x L us F1 H1 H2 q N hi l w1 ⟨ds, h, f⟩ y hq hN
    exact turn i x L us ds F1 H1 H2 q N hi l w1 f y (fun z e F2 H4 l4 w4 he f4 => hq z F2 H4 l4 w4 ⟨_, (h.le l4).snoc he, f4⟩) fun F2 H3 l3 w3 f3 => hN F2 H3 l3 w3 ⟨ds, h.le l3, f3⟩
  · rintro L us F1 H' l w1 lu ⟨ds, h, f⟩
    exact done L us ds F1 H' l w1 lu h f
/-- elements of one sort -/
theorem c_em {α : Type} (emb : α → V) (w : Walk J n G Y) (hn : n < 16000000) (w0 : Wd T H F) (Φ : Nat → List α → List En → Prop) (h0 : Φ 0 [] F)
    (hG : ∀ i L (ds : List α) F1 H1, i ≤ n → Le H H1 → Wd T H1 ((L, isL (ds.map emb)) :: F1) → Φ i ds F1 → G H1)
    (turn : ∀ i x L (ds : List α) F1 H1 H2 (q : VK) (N : Hp → Prop), i < n → Le H H1 → Wd T H1 ((L, isL (ds.map emb)) :: F1) → Φ i ds F1 → Y i H1 x H2 →
      (∀ e F2 H4, Le H1 H4 → Wd T H4 ((L, isL (ds.map emb)) :: F2) → Φ (i + 1) (ds ++ [e]) F2 → q (emb e) H4) → (∀ F2 H3, Le H1 H3 → Wd T H3 ((L, isL (ds.map emb)) :: F2) → Φ (i + 1) ds F2 → N H3) →
      g x (wipe σ vs) H2 fun σ2 H3 => wipe σ2 vs = wipe σ vs ∧ tt σ2 H3 fun b H4 => if b = true then te σ2 H4 q else N H4)
    (done : ∀ L (ds : List α) F1 H', Le H H' → Wd T H' ((L, isL (ds.map emb)) :: F1) → ds.length ≤ n → Φ n ds F1 → Q (.ref L) H') : CQ g tt te vs σ Q J H := by
  refine c_wd w hn w0 (fun i us F1 H1 => ∃ ds : List α, us = ds.map emb ∧ Φ i ds F1) (fun i acc F1 H1 H2 f l => f) ⟨[], rfl, h0⟩ (fun i L us F1 H1 hi l w1 f => ?_) ?_ ?_
  · obtain ⟨ds, rfl, f⟩ := f
    exact hG i L ds F1 H1 hi l w1 f
  · rintro i x L us F1 H1 H2 q N hi l w1 ⟨ds, rfl, f⟩ y hq hN
    exact turn i x L ds F1 H1 H2 q N hi l w1 f y (fun e F2 H4 l4 w4 f4 => hq _ F2 H4 l4 w4 ⟨_, by rw [List.map_append]; rfl, f4⟩) fun F2 H3 l3 w3 f3 => hN F2 H3 l3 w3 ⟨ds, rfl, f3⟩
  · rintro L us F1 H' l w1 lu ⟨ds, rfl, f⟩
    exact done L ds F1 H' l w1 (by rwa [List.length_map] at lu) f
/-- each turn gives what is known ahead; what may change stays as it is -/
theorem c_fx {α : Type} (emb : α → V) (w : Walk J n G Y) (f : Nat → Option α) (hn : n < 16000000) (w0 : Wd T H F) (hG : ∀ L (ds : List α) H1, Le H H1 → Wd T H1 ((L, isL (ds.map emb)) :: F) → G H1)
    (turn : ∀ i x L (ds : List α) H1 H2 (q : VK) (N : Hp → Prop), i < n → Le H H1 → Wd T H1 ((L, isL (ds.map emb)) :: F) → Y i H1 x H2 →
      (∀ e H4, f i = some e → Le H1 H4 → Wd T H4 ((L, isL (ds.map emb)) :: F) → q (emb e) H4) → (f i = none → ∀ H3, Le H1 H3 → Wd T H3 ((L, isL (ds.map emb)) :: F) → N H3) →
      g x (wipe σ vs) H2 fun σ2 H3 => wipe σ2 vs = wipe σ vs ∧ tt σ2 H3 fun b H4 => if b = true then te σ2 H4 q else N H4)
    (done : ∀ L H', Le H H' → Wd T H' ((L, isL (((List.range n).filterMap f).map emb)) :: F) → Q (.ref L) H') : CQ g tt te vs σ Q J H := by
  have rs : ∀ i, (List.range (i + 1)).filterMap f = (List.range i).filterMap f ++ (f i).toList := fun i => by
    rw [List.range_succ, List.filterMap_append]
    congr 1
  refine c_em emb w hn w0 (fun i ds F1 => ds = (List.range i).filterMap f ∧ F1 = F) ⟨rfl, rfl⟩ (fun i L ds F1 H1 hi l w1 e => ?_) ?_ ?_
  · rw [e.2] at w1
    exact hG L ds H1 l w1
  · rintro i x L ds F1 H1 H2 q N hi l w1 ⟨e1, rfl⟩ y hq hN
    refine turn i x L ds H1 H2 q N hi l w1 y (fun e H4 ef l4 w4 => hq e _ H4 l4 w4 ⟨?_, rfl⟩) fun ef H3 l3 w3 => hN _ H3 l3 w3 ⟨?_, rfl⟩
    · rw [rs, ← e1, ef]; rfl
    · rw [rs, ← e1, ef]; exact (List.append_nil _).symm
  · rintro L ds F1 H' l w1 lu ⟨rfl, rfl⟩
    exact done L H' l w1
/-! by one name: val i is the i-th value -/
section
variable {val : Nat → Option V} {j : Nat} {K : PySem.W.Frag}
theorem c_emN {α : Type} (emb : α → V) (w : Walk J n G Y) (hy : ∀ i H x H', Y i H x H' → H' = H ∧ val i = some x) (hn : n < 16000000) (w0 : Wd T H F) (Φ : Nat → List α → List En → Prop) (h0 : Φ 0 [] F) (hw : ∀ x, wipe ((wipe σ vs).set j (some x)) vs = wipe σ vs)
    (hG : ∀ i L (ds : List α) F1 H1, i ≤ n → Le H H1 → Wd T H1 ((L, isL (ds.map emb)) :: F1) → Φ i ds F1 → G H1)
    (turn : ∀ i x L (ds : List α) F1 H1 (q : VK) (N : Hp → Prop), i < n → val i = some x → Le H H1 → Wd T H1 ((L, isL (ds.map emb)) :: F1) → Φ i ds F1 →
      (∀ e F2 H4, Le H1 H4 → Wd T H4 ((L, isL (ds.map emb)) :: F2) → Φ (i + 1) (ds ++ [e]) F2 → q (emb e) H4) → (∀ F2 H3, Le H1 H3 → Wd T H3 ((L, isL (ds.map emb)) :: F2) → Φ (i + 1) ds F2 → N H3) →
      tt ((wipe σ vs).set j (some x)) H1 fun b H4 => if b = true then te ((wipe σ vs).set j (some x)) H4 q else N H4)
    (done : ∀ L (ds : List α) F1 H', Le H H' → Wd T H' ((L, isL (ds.map emb)) :: F1) → ds.length ≤ n → Φ n ds F1 → Q (.ref L) H') : CQ (gName j) tt te vs σ Q J H :=
  c_em emb w hn w0 Φ h0 hG (fun i x L ds F1 H1 H2 q N hi l w1 f y hq hN => by
    obtain ⟨rfl, e⟩ := hy _ _ _ _ y
    exact ⟨hw _, turn i x L ds F1 H2 q N hi e l w1 f hq hN⟩) done
theorem c_pdN (w : Walk J n G Y) (hy : ∀ i H x H', Y i H x H' → H' = H ∧ val i = some x) (hn : n < 16000000) (w0 : Wd T H F) (Φ : Nat → List PyData → List En → Prop) (h0 : Φ 0 [] F) (hw : ∀ x, wipe ((wipe σ vs).set j (some x)) vs = wipe σ vs)
    (hG : ∀ i L us ds F1 H1, i ≤ n → Le H H1 → Wd T H1 ((L, isL us) :: F1) → Φ i ds F1 → G H1)
    (turn : ∀ i x L us ds F1 H1 (q : VK) (N : Hp → Prop), i < n → val i = some x → Le H H1 → Wd T H1 ((L, isL us) :: F1) → Φ i ds F1 →
      (∀ y e F2 H4, Le H1 H4 → Wd T H4 ((L, isL us) :: F2) → Pd H4 y e → Φ (i + 1) (ds ++ [e]) F2 → q y H4) → (∀ F2 H3, Le H1 H3 → Wd T H3 ((L, isL us) :: F2) → Φ (i + 1) ds F2 → N H3) →
      tt ((wipe σ vs).set j (some x)) H1 fun b H4 => if b = true then te ((wipe σ vs).set j (some x)) H4 q else N H4)
    (done : ∀ L us ds F1 H', Le H H' → Wd T H' ((L, isL us) :: F1) → us.length ≤ n → PdA H' us ds → Φ n ds F1 → Q (.ref L) H') : CQ (gName j) tt te vs σ Q J H :=
  c_pd w hn w0 Φ h0 hG (fun i x L us ds F1 H1 H2 q N hi l w1 f y hq hN => by
    obtain ⟨rfl, e⟩ := hy _ _ _ _ y
    exact ⟨hw _, turn i x L us ds F1 H2 q N hi e l w1 f hq hN⟩) done
theorem c_fxN {α : Type} (emb : α → V) (w : Walk J n G Y) (hy : ∀ i H x H', Y i H x H' → H' = H ∧ val i = some x) (f : Nat → Option α) (hn : n < 16000000) (w0 : Wd T H F) (hw : ∀ x, wipe ((wipe σ vs).set j (some x)) vs = wipe σ vs) (hG : ∀ L (ds : List α) H1, Le H H1 → Wd T H1 ((L, isL (ds.map emb)) :: F) → G H1)
    (turn : ∀ i x L (ds : List α) H1 (q : VK) (N : Hp → Prop), i < n → val i = some x → Le H H1 → Wd T H1 ((L, isL (ds.map emb)) :: F) →
      (∀ e H4, f i = some e → Le H1 H4 → Wd T H4 ((L, isL (ds.map emb)) :: F) → q (emb e) H4) → (f i = none → ∀ H3, Le H1 H3 → Wd T H3 ((L, isL (ds.map emb)) :: F) → N H3) →
      tt ((wipe σ vs).set j (some x)) H1 fun b H4 => if b = true then te ((wipe σ vs).set j (some x)) H4 q else N H4)
    (done : ∀ L H', Le H H' → Wd T H' ((L, isL (((List.range n).filterMap f).map emb)) :: F) → Q (.ref L) H') : CQ (gName j) tt te vs σ Q J H :=
  c_fx emb w f hn w0 hG (fun i x L ds H1 H2 q N hi l w1 y hq hN => by
    obtain ⟨rfl, e⟩ := hy _ _ _ _ y
    exact ⟨hw _, turn i x L ds H2 q N hi e l w1 hq hN⟩) done
theorem y_rng {f : Nat → V} : ∀ i H x H', YFn f i H x H' → H' = H ∧ some (f i) = some x := fun _ _ _ _ y => ⟨y.1, congrArg some y.2.symm⟩
theorem y_seq {xs : List V} : ∀ i H x H', YAt xs i H x H' → H' = H ∧ xs[i]? = some x := fun _ _ _ _ y => y
/-- the same over a tuple: the reading asks for its place -/
theorem s_Tu {R : It → Hp → Prop} {a : Addr} {xs : List V} (h : Tu H a xs) (r : R (ItS K .t a) H) : sQ K R (.ref a) H := s_S (k := .t) h.sq r
theorem s_Li {R : It → Hp → Prop} {a : Addr} {xs : List V} {L : List En} {R' : List En} (w : Wd T H L) (s : Sel (a, isL xs) L R') (r : R (ItS K .l a) H) : sQ K R (.ref a) H := s_S (k := .l) (w.sqL s) r
end
end
/-! ### the law's own script and tables -/
theorem scr_of {K : PySem.W.Frag} {T : List (Addr × Str)} {H : Hp} {a : Addr} {xs : List V} (t : LamX.Tabs T H) (h : SqL K H a xs) : ∃ L : List En, Wd T H L ∧ ∀ H', Wd T H' L → SqL K H' a xs := by
  rcases h with (h | ⟨ob, h⟩) | h
  · exact ⟨[(a, isF xs)], ⟨t, List.nodup_cons.mpr ⟨List.not_mem_nil, List.nodup_nil⟩, fun q hq => by
      rw [List.mem_singleton.mp hq]
      exact ⟨_, h, .inl rfl, rfl⟩⟩, fun H' w => w.sqF .head⟩
  · exact ⟨[(a, isF xs)], ⟨t, List.nodup_cons.mpr ⟨List.not_mem_nil, List.nodup_nil⟩, fun q hq => by
      rw [List.mem_singleton.mp hq]
      exact ⟨_, h, .inr ⟨ob, rfl⟩, rfl⟩⟩, fun H' w => w.sqF .head⟩
  · exact ⟨[], ⟨t, List.nodup_nil, fun q hq => nomatch hq⟩, fun H' _ => .inr h⟩
theorem tab_u : ∀ {T : List (Addr × Str)}, (T.map Prod.fst).Nodup → ∀ {P : Addr} {q : Str}, (P, q) ∈ T → ∀ p ∈ T, p.1 = P → p.2 = q
  | [], _, P, q, m, _, _, _ => nomatch m
  | (P0, q0) :: T, nd, P, q, m, p, hp, e => by
    obtain ⟨n1, n2⟩ := List.nodup_cons.mp nd
    rcases List.mem_cons.mp m with m | m <;> rcases List.mem_cons.mp hp with hp | hp
    · rw [hp]
      injection m with _ m
      exact m.symm
    · injection m with m _
      exact (n1 (List.mem_map.mpr ⟨p, hp, e.trans m⟩)).elim
    · rw [hp] at e
      have e : P0 = P := e
      exact (n1 (List.mem_map.mpr ⟨_, m, e.symm⟩)).elim
    · exact tab_u n2 m p hp e
end PB
namespace K83
open PySem PySem.Spec PyProof.Rows L2
def top (i : Nat) : Stmt := PySem.Challenge.pw_promisedpost_k83_whole_mirrors.main.body.getD i (.Pass ⟨0, 0, 0, 0⟩)
def inn (i j : Nat) : Stmt := match top i with
  | .ClassDef (body := b) .. => b.getD j (.Pass ⟨0, 0, 0, 0⟩)
  | s => s
def dd (x : Str) (i : Nat) : He.DefD := ⟨(x, none), x, x, defArgs (top i), defBody (top i), defScope (top i), [], []⟩
def dk (x : Str) (i : Nat) (kw : List (Str × He.Dv)) : He.DefD := ⟨(x, none), x, x, defArgs (top i), defBody (top i), defScope (top i), [], kw⟩
def dm (c m q : Str) (i j : Nat) : He.DefD := ⟨(c, some m), m, q, defArgs (inn i j), defBody (inn i j), defScope (inn i j), [], []⟩
def fn : List He.DefD := [dd "is_integer" 5, dd "is_in" 6, dd "is_tuple_of" 7, dd "demand" 8, dd "is_led" 14, dd "_law_dice" 16, dd "_law_roll" 17, dd "_law_pick" 18, dd "_law_told" 19, dd "_law_refused" 20, dd "_law_marks_right" 21, dd "_law_met" 22, dd "_law_odd_right" 23, dd "_law_right" 24, dd "law" 25, dm "Mirror" "__init__" "Mirror.__init__" 13 0, dm "Mirror" "told" "Mirror.told" 13 3, dm "Mirror" "__eq__" "Mirror.__eq__" 13 4, dm "Mirror" "twin" "Mirror.twin" 13 5, dm "Mirror" "is_step" "Mirror.is_step" 13 6, dm "Mirror" "do" "Mirror.do" 13 7, dm "Mirror" "below" "Mirror.below" 13 8, dm "Mirror" "led" "Mirror.led" 13 9, dm "Mirror" "reread" "Mirror.reread" 13 10]
def pd : List PB.PrpD := [⟨"Mirror", "rows", defArgs (inn 13 1), defBody (inn 13 1), defScope (inn 13 1)⟩, ⟨"Mirror", "pairs", defArgs (inn 13 2), defBody (inn 13 2), defScope (inn 13 2)⟩]
def oc : List Str := ["Mirror"]
def fa : List He.Fa := [.glo "is_integer", .glo "is_in", .glo "is_tuple_of", .glo "demand", .glo "is_led", .glo "_law_dice", .glo "_law_roll", .glo "_law_pick", .glo "_law_told", .glo "_law_refused", .glo "_law_marks_right", .glo "_law_met", .glo "_law_odd_right", .glo "_law_right", .glo "law", .free "ValueError", .free "property", .free "range", .free "max", .free "isinstance", .free "int", .free "tuple", .free "list", .free "len", .free "bool", .free "abs", .free "min", .free "super", .free "str", .int "MOST_STEP" (100), .int "MOST_PLACE" (1000000), .int "MOST_ROWS" (600), .glo "Mirror", .cls "Mirror", .mkr "Mirror", .meth "Mirror" "told", .meth "Mirror" "__eq__", .meth "Mirror" "twin", .meth "Mirror" "is_step", .meth "Mirror" "do", .meth "Mirror" "below", .meth "Mirror" "led", .meth "Mirror" "reread", .noat "Mirror" "step", .noat "Mirror" "copied", .noat "Mirror" "_rows"]
def ini : List PB.IniD := [⟨"BadArgument", "name", defArgs (inn 2 0), defBody (inn 2 0), defScope (inn 2 0)⟩, ⟨"NotPossible", "word", defArgs (inn 3 0), defBody (inn 3 0), defScope (inn 3 0)⟩]
def tf : List He.Defn := [("_law_odd_right", none), ("_law_right", none)]
def ex (K : PySem.W.Frag) : Bool := ini.all (PB.iniB PySem.Challenge.pw_promisedpost_k83_whole_mirrors K) && (pd.all (PB.prpB K) && oc.all (PB.insB K)) && decide ((tf.map fun t => (He.cT K t).2).Nodup)
abbrev R : PySem.W.OpenRow := PySem.W.OpenLaw.row PySem.Challenge.rw_promisedpost_k83_whole_mirrors
abbrev qv : PySem.Program := PySem.W.view R.prog [25]
def names : List PySem.Str := (["PostError", "BadArgument", "NotPossible", "is_integer", "is_in", "is_tuple_of", "demand", "MOST_STEP", "MOST_PLACE", "MOST_ROWS", "Mirror", "is_led", "_law_dice", "_law_roll", "_law_pick", "_law_told", "_law_refused", "_law_marks_right", "_law_met", "_law_odd_right"] : List PySem.Str) ++ (["_law_right", "__name__"] : List PySem.Str)
abbrev hk : PySem.W.Hook := PB.hookJ 5 fa fn [] tf ini pd ex
def ob (s : PySem.W.SharedT) : PB.AlJ := PB.obsJ 5 fa fn [] tf ini pd ex (HandSHeadRun.getT s)
theorem ob_eq (s : PySem.W.SharedT) : ob s = hk.obs s.abs := PB.obsJ_eq (HandSHeadRun.getT_eq s)
theorem run (w : World) : HandSHeadRun.RunEq R qv hk ob 4000 names w := by
  intro os
  kernel_rfl
end K83

section
open PySem PySem.Spec L2 PB
open PyProof.Rows hiding St
local macro_rules | `(tactic| walk_at "ex") => `(tactic| first
  | with_reducible exact Ex.refl _
  | assumption
  | (with_reducible refine Ex.add ?_ (by assumption); walk_at "ex")
  | (with_reducible refine Ex.trans ?_ (by assumption); walk_at "ex"))
local macro_rules | `(tactic| walk_at "hl") => `(tactic| first
  | assumption
  | with_reducible exact sqL_new
  | with_reducible exact sqT_new
  | with_reducible exact upd_same
  | (with_reducible refine sqL_up (by assumption) ?_; walk_at "hl")
  | (with_reducible refine sqT_up (by assumption) ?_; walk_at "hl")
  | (with_reducible refine at_up (by assumption) ?_; walk_at "hl")
  | (with_reducible refine sqL_ex (by assumption) ?_; walk_at "hl")
  | (with_reducible refine sqT_ex (by assumption) ?_; walk_at "hl")
  | (with_reducible refine at_ex (by assumption) ?_; walk_at "hl"))
local macro_rules | `(tactic| walk_at "rd") => `(tactic| first
  | with_reducible refine r_var (by first | rfl | with_unfolding_all rfl) ?_
  | with_reducible refine r_c ?_
  | with_reducible refine r_op ?_
  | with_reducible refine r_cons ?_
  | with_reducible refine r_nil ?_
  | with_reducible refine r_seq ?_
  | with_reducible refine r_set ?_
  | with_reducible refine r_next ?_
  | with_reducible refine r_brk ?_
  | with_reducible refine r_cont ?_
  | with_reducible refine r_ret ?_
  | with_reducible refine r_ifS ?_
  | with_reducible refine r_test ?_
  | with_reducible refine r_B ?_
  | with_reducible refine r_bl ?_
  | with_reducible refine r_andV ?_
  | with_reducible refine r_orV ?_
  | with_reducible refine r_notV ?_
  | with_reducible refine r_and ?_
  | with_reducible refine r_or ?_
  | with_reducible refine r_not ?_
  | with_reducible refine r_if ?_
  | with_reducible refine r_chain ?_
  | with_reducible refine r_callB ?_
  | with_reducible refine r_call ?_
  | with_reducible refine r_addI ?_
  | with_reducible refine r_cmpI ?_
  | with_reducible refine r_eqI ?_
  | with_reducible refine r_neI ?_
  | with_reducible refine r_I0 ?_
  | with_reducible refine r_max2 ?_
  | with_reducible refine r_min2 ?_
  | with_reducible refine r_int1 ?_
  | with_reducible refine r_for ?_
  | with_reducible refine r_lc ?_
  | with_reducible refine r_iSeq ?_
  | with_reducible refine r_iZip ?_
  | with_reducible refine r_iEnum ?_
  | with_reducible refine r_iRng1 ?_
  | with_reducible refine r_iRng2 ?_
  | with_reducible refine r_truB ?_
  | with_reducible refine r_yes ?_
  | with_reducible refine r_tru ?_
  | with_reducible refine r_bm ?_
  | with_reducible refine r_asg ?_
  | with_reducible refine r_gname ?_
  | with_reducible refine r_drop ?_
  | with_reducible refine r_rais ?_
  | with_reducible refine r_aug (by first | rfl | with_unfolding_all rfl) ?_
  | with_reducible refine r_augS ?_
  | with_reducible refine r_ipI ?_
  | with_reducible refine r_gsub ?_
  | with_reducible refine r_sl ?_
  | with_reducible refine r_part ?_
  | with_reducible refine r_nopart ?_
  | with_reducible refine r_parI ?_
  | with_reducible refine r_tup ?_
  | with_reducible refine r_lst ?_
  | with_reducible refine r_par ?_
  | with_reducible refine r_pQ ?_
  | with_reducible refine r_un ?_
  | with_reducible refine r_U ?_
  | ((with_reducible refine r_T ?_ ?_); focus rfl)
  | ((with_reducible refine r_F ?_ ?_); focus rfl))
local macro_rules | `(tactic| walk_at "rq") => `(tactic| first
  | with_reducible refine r_var (by first | rfl | with_unfolding_all rfl) ?_
  | with_reducible refine r_c ?_
  | with_reducible refine r_op ?_
  | with_reducible refine r_cons ?_
  | with_reducible refine r_nil ?_
  | with_reducible refine r_seq ?_
  | with_reducible refine r_set ?_
  | with_reducible refine r_next ?_
  | with_reducible refine r_brk ?_
  | with_reducible refine r_cont ?_
  | with_reducible refine r_ret ?_
  | with_reducible refine r_test ?_
  | with_reducible refine r_B ?_
  | with_reducible refine r_bl ?_
  | with_reducible refine r_andV ?_
  | with_reducible refine r_orV ?_
  | with_reducible refine r_notV ?_
  | with_reducible refine r_and ?_
  | with_reducible refine r_or ?_
  | with_reducible refine r_not ?_
  | with_reducible refine r_if ?_
  | with_reducible refine r_chain ?_
  | with_reducible refine r_callB ?_
  | with_reducible refine r_call ?_
  | with_reducible refine r_addI ?_
  | with_reducible refine r_cmpI ?_
  | with_reducible refine r_eqI ?_
  | with_reducible refine r_neI ?_
  | with_reducible refine r_I0 ?_
  | with_reducible refine r_max2 ?_
  | with_reducible refine r_min2 ?_
  | with_reducible refine r_int1 ?_
  | with_reducible refine r_for ?_
  | with_reducible refine r_lc ?_
  | with_reducible refine r_iSeq ?_
  | with_reducible refine r_iZip ?_
  | with_reducible refine r_iEnum ?_
  | with_reducible refine r_iRng1 ?_
  | with_reducible refine r_iRng2 ?_
  | with_reducible refine r_truB ?_
  | with_reducible refine r_yes ?_
  | with_reducible refine r_tru ?_
  | with_reducible refine r_bm ?_
  | with_reducible refine r_asg ?_
  | with_reducible refine r_gname ?_
  | with_reducible refine r_drop ?_
  | with_reducible refine r_rais ?_
  | with_reducible refine r_aug (by first | rfl | with_unfolding_all rfl) ?_
  | with_reducible refine r_augS ?_
  | with_reducible refine r_ipI ?_
  | with_reducible refine r_gsub ?_
  | with_reducible refine r_sl ?_
  | with_reducible refine r_part ?_
  | with_reducible refine r_nopart ?_
  | with_reducible refine r_parI ?_
  | with_reducible refine r_tup ?_
  | with_reducible refine r_lst ?_
  | with_reducible refine r_par ?_
  | with_reducible refine r_pQ ?_
  | with_reducible refine r_un ?_
  | with_reducible refine r_U ?_
  | ((with_reducible refine r_T ?_ ?_); focus rfl)
  | ((with_reducible refine r_F ?_ ?_); focus rfl))

local macro_rules | `(tactic| walk_at "rd") => `(tactic| first
  | with_reducible refine r_m1 ?_
  | with_reducible refine r_eqZ ?_
  | with_reducible refine r_neZ ?_
  | with_reducible refine r_meth ?_
  | with_reducible refine r_methK ?_
  | with_reducible refine r_make ?_
  | with_reducible refine r_makeK ?_
  | with_reducible refine r_prop ?_
  | with_reducible refine r_fldS ?_
  | with_reducible refine r_sfld ?_
  | with_reducible refine r_fldaug ?_
  | with_reducible refine r_callS ?_)
namespace K83
abbrev Cx0 := CtJ fa fn pd oc
section
variable {P : Program} {w : World} {K : PySem.W.Frag} {mg : Str → Option Value} {base : Heap}
abbrev s_is_integer : Stmt := top 5
theorem sc_is_integer : FnScope ["value"] ["value"] (defScope s_is_integer) := ⟨rfl, rfl, rfl, by decide +kernel, rfl, by decide +kernel, by decide +kernel⟩
def sp_is_integer (K : PySem.W.Frag) : Sp := fun vs H Q _ => ∃ v T, vs = [v] ∧ IsTy K H v T ∧ Q (.bl (isIntV v)) H
theorem ok_is_integer (C : Cx0 K mg base) : Cal P w K mg base 1 "is_integer" ["value"] (sp_is_integer K) := by
  refine C.cal 0 0 rfl rfl sc_is_integer (fun _ _ _ _ _ _ us hl => match us, hl with | [_], _ => rfl) (fun vs H Q E h => ?_) (fun f cdv A outer s H vs Q E hr h => ⟨_, PSs.nox
    (pss_one (ps_ret (pe_and (pe_bi (k_isi (K := K) rfl) (C.free 19) (by decide +kernel) (pa_cons (pv 0) (pa_cons (pe_ty "int" (C.free 20)) pa_nil))) (pe_one (pe_not (pe_bi (k_isi (K := K) rfl) (C.free 19) (by decide +kernel) (pa_cons (pv 0) (pa_cons (pe_ty "bool" (C.free 24)) pa_nil)))))))), ?_⟩)
  · obtain ⟨v, T, rfl, _⟩ := h
    rfl
  · obtain ⟨v, T, rfl, ty, k⟩ := h
    repeat walk_at "rd"
    rcases ty.cases with ⟨rfl, rfl⟩ | ⟨b, rfl, rfl⟩ | ⟨i, rfl, rfl⟩ | ⟨x, rfl, rfl⟩ | ⟨a, rfl, ht⟩
    · exact r_isi (b := false) ty rfl ⟨false, rfl, k⟩
    · refine r_isi (b := true) ty rfl ⟨true, rfl, ?_⟩
      repeat walk_at "rd"
      exact r_isi (b := true) ty rfl ⟨true, rfl, k⟩
    · refine r_isi (b := true) ty rfl ⟨true, rfl, ?_⟩
      repeat walk_at "rd"
      exact r_isi (b := false) ty rfl ⟨false, rfl, k⟩
    · exact r_isi (b := false) ty rfl ⟨false, rfl, k⟩
    · simp only [List.mem_cons, List.not_mem_nil, or_false] at ht
      rcases ht with rfl | rfl | rfl <;> exact r_isi (b := false) ty rfl ⟨false, rfl, k⟩
abbrev s_is_in : Stmt := top 6
theorem sc_is_in : FnScope ["value", "low", "high"] ["value", "low", "high"] (defScope s_is_in) := ⟨rfl, rfl, rfl, by decide +kernel, rfl, by decide +kernel, by decide +kernel⟩
def inB (lo hi : Int) : V → Bool
  | .int i => decide (lo ≤ i) && decide (i ≤ hi)
  | _ => false
theorem inB_yes {lo hi i : Int} (h1 : lo ≤ i) (h2 : i ≤ hi) : inB lo hi (.int i) = true := by
  show (decide (lo ≤ i) && decide (i ≤ hi)) = _
  rw [decide_eq_true h1, decide_eq_true h2]; rfl
theorem inB_int {lo hi i : Int} : inB lo hi (.int i) = true ↔ lo ≤ i ∧ i ≤ hi := by
  show (decide (lo ≤ i) && decide (i ≤ hi)) = true ↔ _
  rw [Bool.and_eq_true, decide_eq_true_eq, decide_eq_true_eq]
def sp_is_in (K : PySem.W.Frag) : Sp := fun vs H Q _ => ∃ v T lo hi, vs = [v, .int lo, .int hi] ∧ IsTy K H v T ∧ Q (.bl (inB lo hi v)) H
theorem ok_is_in (C : Cx0 K mg base) : Cal P w K mg base 2 "is_in" ["value", "low", "high"] (sp_is_in K) := by
  have c_is_integer := ok_is_integer (P := P) (w := w) C
  refine C.cal 1 1 rfl rfl sc_is_in (fun _ _ _ _ _ _ us hl => match us, hl with | [_, _, _], _ => rfl) (fun vs H Q E h => ?_) (fun f cdv A outer s H vs Q E hr h => ⟨_, PSs.nox
    (pss_one (ps_ret (pe_and (pe_f c_is_integer hr (by first | decide | omega) passL (pa_cons (pv 0) pa_nil)) (pe_one (pe_chain (k_le (K := K) rfl hr) (k_le (K := K) rfl hr) (pv 1) (pv 0) (pv 2)))))), ?_⟩)
  · obtain ⟨v, T, lo, hi, rfl, _⟩ := h
    rfl
  · obtain ⟨v, T, lo, hi, rfl, ty, k⟩ := h
    repeat walk_at "rd"
    refine ⟨v, T, rfl, ty, ?_⟩
    cases v with
    | int i =>
      repeat walk_at "rd"
      by_cases c : lo ≤ i
      · refine r_T (decide_eq_true c) ?_
        repeat walk_at "rd"
        have e : inB lo hi (.int i) = decide (i ≤ hi) := by
          show (decide (lo ≤ i) && decide (i ≤ hi)) = _
          rw [decide_eq_true c, Bool.true_and]
        rw [e] at k
        exact k
      · refine r_F (decide_eq_false c) ?_
        have e : inB lo hi (.int i) = false := by
          show (decide (lo ≤ i) && decide (i ≤ hi)) = _
          rw [decide_eq_false c, Bool.false_and]
        rw [e] at k
        exact k
    | _ => exact ⟨false, rfl, k⟩
abbrev cBad (K : PySem.W.Frag) : Value := .ref (clsA K "BadArgument")
/-- what a refusal of this name leaves -/
def Refuses (K : PySem.W.Frag) (n : Str) (H : Hp) (E : XK) : Prop := ∀ d H', H d = none → Ex H H' → H' d = some (.xd [("name", .str n)]) → E (cBad K) (some d) H'
theorem Refuses.ex {n : Str} {H H' : Hp} {E : XK} (h : Refuses K n H E) (e : Ex H H') : Refuses K n H' E := fun d H2 f e2 a => h d H2 (e.free f) (e.trans e2) a
abbrev OBad (P : Program) (w : World) (K : PySem.W.Frag) (mg : Str → Option Value) (base : Heap) : Prop := Own P w K mg base 1 "BadArgument" "name"
abbrev s_demand : Stmt := top 8
theorem sc_demand : FnScope ["is_good", "name"] ["is_good", "name"] (defScope s_demand) := ⟨rfl, rfl, rfl, by decide +kernel, rfl, by decide +kernel, by decide +kernel⟩
def sp_demand (K : PySem.W.Frag) : Sp := fun vs H Q E => ∃ b n, vs = [.bl b, .str n] ∧ (b = true → Q .non H) ∧ (b = false → Refuses K n H E)
theorem ok_demand (C : Cx0 K mg base) (o_BadArgument : OBad P w K mg base) : Cal P w K mg base 3 "demand" ["is_good", "name"] (sp_demand K) := by
  refine C.cal 3 3 rfl rfl sc_demand (fun _ _ _ _ _ _ us hl => match us, hl with | [_, _], _ => rfl) (fun vs H Q E h => ?_) (fun f cdv A outer s H vs Q E hr h => ⟨_,
    (pss_one (ps_if (pt_not (k_truth (K := K) rfl (pv 0) (by intro _; rfl))) (pss_one (ps_own (K := K) rfl o_BadArgument rfl (takes_of rfl rfl rfl rfl) hr (by decide) passL (pv 1))) pss_nil)), ?_⟩)
  · obtain ⟨b, n, rfl, _⟩ := h
    rfl
  · obtain ⟨b, n, rfl, k1, k2⟩ := h
    repeat walk_at "rd"
    cases b with
    | true =>
      repeat walk_at "rd"
      exact k1 rfl
    | false =>
      repeat walk_at "rd"
      exact r_mkQ fun d H' f e a => k2 rfl d H' f e a

abbrev ONot (P : Program) (w : World) (K : PySem.W.Frag) (mg : Str → Option Value) (base : Heap) : Prop := Own P w K mg base 1 "NotPossible" "word"
abbrev cNot (K : PySem.W.Frag) : Value := .ref (clsA K "NotPossible")
/-- what a step that is not possible leaves -/
def Words (K : PySem.W.Frag) (n : Str) (H : Hp) (E : XK) : Prop := ∀ d H', H d = none → Ex H H' → H' d = some (.xd [("word", .str n)]) → E (cNot K) (some d) H'
theorem Words.ex {n : Str} {H H' : Hp} {E : XK} (h : Words K n H E) (e : Ex H H') : Words K n H' E := fun d H2 f e2 a => h d H2 (e.free f) (e.trans e2) a
def tupD (n : Int) : PyData → Bool
  | .tuple xs => decide ((xs.length : Int) = n)
  | _ => false
abbrev s_is_tuple_of : Stmt := top 7
theorem sc_is_tuple_of : FnScope ["value", "many"] ["value", "many"] (defScope s_is_tuple_of) := ⟨rfl, rfl, rfl, by decide +kernel, rfl, by decide +kernel, by decide +kernel⟩
def sp_is_tuple_of (K : PySem.W.Frag) : Sp := fun vs H Q _ => ∃ v p n, vs = [v, .int n] ∧ Dp K H v p ∧ Q (.bl (tupD n p)) H
theorem ok_is_tuple_of (C : Cx0 K mg base) : Cal P w K mg base 1 "is_tuple_of" ["value", "many"] (sp_is_tuple_of K) := by
  refine C.cal 2 2 rfl rfl sc_is_tuple_of (fun _ _ _ _ _ _ us hl => match us, hl with | [_, _], _ => rfl) (fun vs H Q E h => ?_) (fun f cdv A outer s H vs Q E hr h => ⟨_, PSs.nox
    (pss_one (ps_ret (pe_and (pe_bi (k_isi (K := K) rfl) (C.free 19) (by decide +kernel) (pa_cons (pv 0) (pa_cons (pe_ty "tuple" (C.free 21)) pa_nil))) (pe_one (pe_cmpR (k_eq (K := K) rfl hr) (pe_bi (k_len (K := K) rfl) (C.free 23) (by decide +kernel) (pa_cons (pv 0) pa_nil)) (pv 1) (nomark _)))))), ?_⟩)
  · obtain ⟨v, p, n, rfl, _⟩ := h
    rfl
  · obtain ⟨v, p, n, rfl, dp, k⟩ := h
    repeat walk_at "rd"
    refine r_isiK (Dp.ty dp) (by decide) ?_
    rw [isT_tup]
    cases dp with
    | tup ht hd =>
      repeat walk_at "rd"
      refine r_lenT ht ?_
      repeat walk_at "rd"
      rw [DpA.length hd]
      exact k
    | _ => exact ⟨false, rfl, k⟩
/-! ### the mirror -/
abbrev CM (K : PySem.W.Frag) : Addr := He.ga K "Mirror"
def flds (st cp : Nat) (p : Addr) : List (Str × V) := [("step", .int st), ("copied", .int cp), ("_rows", .ref p)]
def Mir (K : PySem.W.Frag) (H : Hp) (a p : Addr) (st cp : Nat) (rs : List Int) : Prop := (∃ dx, H a = some (.ins (CM K) dx (flds st cp p))) ∧ H p = some (.lst (rs.map V.int))
theorem Mir.ex {H H' : Hp} {a p : Addr} {st cp : Nat} {rs : List Int} (e : Ex H H') (h : Mir K H a p st cp rs) : Mir K H' a p st cp rs := by
  obtain ⟨⟨dx, h1⟩, h2⟩ := h
  exact ⟨⟨dx, e _ _ h1⟩, e _ _ h2⟩
theorem Mir.eo {H H' : Hp} {ds : List Addr} {a p : Addr} {st cp : Nat} {rs : List Int} (e : EO ds H H') (na : a ∉ ds) (np : p ∉ ds) (h : Mir K H a p st cp rs) : Mir K H' a p st cp rs := by
  obtain ⟨⟨dx, h1⟩, h2⟩ := h
  exact ⟨⟨dx, e.ins na h1⟩, e.lst np h2⟩
theorem Mir.ne {H : Hp} {a p : Addr} {st cp : Nat} {rs : List Int} (h : Mir K H a p st cp rs) : a ≠ p := by
  rintro rfl
  obtain ⟨⟨dx, h1⟩, h2⟩ := h
  rw [h1] at h2
  cases h2
theorem clM (C : Cx0 K mg base) : Cls K (CM K) := (C.insC 33 List.mem_cons_self rfl).cl
theorem noat (C : Cx0 K mg base) : NoAttr K (CM K) "step" ∧ NoAttr K (CM K) "copied" ∧ NoAttr K (CM K) "_rows" :=
  ⟨He.noat_ok (C.says.fact 43 rfl), He.noat_ok (C.says.fact 44 rfl), He.noat_ok (C.says.fact 45 rfl)⟩
/-- a field read -/
theorem fl_step (C : Cx0 K mg base) {H : Hp} {a p : Addr} {st cp : Nat} {rs : List Int} {R : V → Prop} (m : Mir K H a p st cp rs) (q : R (.int st)) : ∃ a' D dx fs v, V.ref a = .ref a' ∧ H a' = some (.ins D dx fs) ∧ Cls K D ∧ NoAttr K D "step" ∧ fs.lookup ("step" : Str) = some v ∧ R v := by
  obtain ⟨⟨dx, h⟩, _⟩ := m
  exact ⟨_, _, _, _, _, rfl, h, clM C, (noat C).1, rfl, q⟩
theorem fl_cop (C : Cx0 K mg base) {H : Hp} {a p : Addr} {st cp : Nat} {rs : List Int} {R : V → Prop} (m : Mir K H a p st cp rs) (q : R (.int cp)) : ∃ a' D dx fs v, V.ref a = .ref a' ∧ H a' = some (.ins D dx fs) ∧ Cls K D ∧ NoAttr K D "copied" ∧ fs.lookup ("copied" : Str) = some v ∧ R v := by
  obtain ⟨⟨dx, h⟩, _⟩ := m
  exact ⟨_, _, _, _, _, rfl, h, clM C, (noat C).2.1, rfl, q⟩
theorem fl_rows (C : Cx0 K mg base) {H : Hp} {a p : Addr} {st cp : Nat} {rs : List Int} {R : V → Prop} (m : Mir K H a p st cp rs) (q : R (.ref p)) : ∃ a' D dx fs v, V.ref a = .ref a' ∧ H a' = some (.ins D dx fs) ∧ Cls K D ∧ NoAttr K D "_rows" ∧ fs.lookup ("_rows" : Str) = some v ∧ R v := by
  obtain ⟨⟨dx, h⟩, _⟩ := m
  exact ⟨_, _, _, _, _, rfl, h, clM C, (noat C).2.2, rfl, q⟩
abbrev s_Mirror___init__ : Stmt := inn 13 0
theorem sc_Mirror___init__ : FnScope ["self", "step"] ["self", "step"] (defScope s_Mirror___init__) := ⟨rfl, rfl, rfl, by decide +kernel, rfl, by decide +kernel, by decide +kernel⟩
def sp_init (K : PySem.W.Frag) : Sp := fun vs H Q E => ∃ b dx v T, vs = [.ref b, v] ∧ H b = some (.ins (CM K) dx []) ∧ IsTy K H v T ∧ (inB 1 100 v = false → Refuses K "step" H E) ∧
  ∀ st : Nat, v = .int st → 1 ≤ st → st ≤ 100 → ∀ p H', H p = none → ExB b H H' → Mir K H' b p st 0 [] → Q .non H'
theorem ok_init (C : Cx0 K mg base) (o_BadArgument : OBad P w K mg base) : MakE P w K mg base 4 "Mirror" (He.ga K "Mirror") ["self", "step"] (sp_init K) ∧ MakK P w K mg base 4 "Mirror" (He.ga K "Mirror") ["step"] (sp_init K) (fun xs zs => xs ++ zs) := by
  have c_demand := ok_demand (P := P) (w := w) C o_BadArgument
  have c_is_in := ok_is_in (P := P) (w := w) C
  have cM := clM C
  have nA := noat C
  refine C.mak2 15 34 32 rfl rfl rfl sc_Mirror___init__ rfl (fun _ _ _ _ _ _ us hl => match us, hl with | [_, _], _ => rfl) (fun _ _ _ _ _ _ _ ws hl => match ws, hl with | [_], _ => rfl) (fun vs H Q E h => ?_) (fun f cdv A outer s H vs Q E hr h => ⟨_,
    (pss_cons (ps_expr (pe_f c_demand hr (by first | decide | omega) (passes_call (takes_of rfl rfl rfl rfl) fun _ _ _ _ h => h) (pa_cons (pe_f c_is_in hr (by first | decide | omega) (passes_call (takes_of rfl rfl rfl rfl) fun _ _ _ _ h => h) (pa_cons (pv 1) (pa_cons pe_int (pa_cons (pe_gi (C.int 29)) pa_nil)))) (pa_cons pe_str pa_nil))))
      (pss_cons (k_sfld (K := K) rfl (pv 0) (pv 1))
      (pss_cons (k_sfld (K := K) rfl (pv 0) pe_int)
      (pss_one (k_sfld (K := K) rfl (pv 0) (pe_lst pa_nil)))))), ?_⟩)
  · obtain ⟨b, dx, v, T, rfl, _⟩ := h
    rfl
  · obtain ⟨b, dx, v, T, rfl, hb, ty, k1, k2⟩ := h
    repeat walk_at "rd"
    refine ⟨v, T, 1, 100, rfl, ty, ?_⟩
    repeat walk_at "rd"
    refine ⟨inB 1 100 v, "step", rfl, fun e => ?_, k1⟩
    cases v with
    | int i =>
      have := inB_int.mp e
      obtain ⟨st, rfl⟩ := Int.eq_ofNat_of_zero_le (show 0 ≤ i by omega)
      repeat walk_at "rd"
      refine ⟨b, CM K, dx, [], rfl, hb, cM, nA.1, by decide, ?_⟩
      repeat walk_at "rd"
      refine ⟨b, CM K, dx, _, rfl, upd_same, cM, nA.2.1, (show 1 < 1000 by decide), ?_⟩
      repeat walk_at "rd"
      refine ⟨(show 0 ≤ sizeLine by decide), fun q hq => ?_⟩
      repeat walk_at "rd"
      have nq : b ≠ q := fun z => by rw [← z, upd_same] at hq; cases hq
      refine ⟨b, CM K, dx, _, rfl, (upd_ne nq).trans upd_same, cM, nA.2.2, (show 2 < 1000 by decide), ?_⟩
      repeat walk_at "rd"
      have hq0 : H q = none := by
        rw [upd_ne nq.symm, upd_ne nq.symm] at hq
        exact hq
      refine k2 st rfl (by omega) (by omega) q _ hq0 (fun c o n h => ?_) ⟨⟨dx, upd_same⟩, (upd_ne nq.symm).trans upd_same⟩
      have nc : c ≠ q := fun z => by rw [z, hq0] at h; cases h
      exact (upd_ne n).trans ((upd_ne nc).trans ((upd_ne n).trans ((upd_ne n).trans h)))
    | _ => cases e
/-- a mirror made -/
theorem new_mir {H1 : Hp} {E : XK} {Q : Addr → Hp → Prop} {v : V} {T : String} (ty : IsTy K H1 v T) (k1 : inB 1 100 v = false → Refuses K "step" H1 E) (k2 : ∀ st : Nat, v = .int st → 1 ≤ st → st ≤ 100 → ∀ b p H', H1 b = none → H1 p = none → Ex H1 H' → Mir K H' b p st 0 [] → Q b H') :
    ∀ x dx, H1 x = none → H1 dx = none → dx ≠ x → sp_init K (.ref x :: [v]) (upd (upd H1 dx (.own x)) x (.ins (CM K) dx [])) (fun v H2 => v = .non ∧ Q x H2) E := by
  intro x dx hx hdx ne
  have e1 : Ex H1 (upd (upd H1 dx (.own x)) x (.ins (CM K) dx [])) := (Ex.new hdx).trans (Ex.new ((upd_ne ne.symm).trans hx))
  refine ⟨x, dx, v, T, rfl, upd_same, ty.ex e1, fun e => (k1 e).ex e1, fun st e l1 l2 p H' hp xb m => ⟨rfl, ?_⟩⟩
  refine k2 st e l1 l2 x p H' hx (e1.free hp) (fun c o h => ?_) m
  exact xb c o (fun z => by rw [z, hx] at h; cases h) (e1 c o h)
end
end K83

local macro_rules | `(tactic| walk_at "rd") => `(tactic| first
  | with_reducible refine r_m1 ?_
  | with_reducible refine r_eqZ ?_
  | with_reducible refine r_neZ ?_
  | with_reducible refine r_meth ?_
  | with_reducible refine r_methK ?_
  | with_reducible refine r_makeK ?_
  | with_reducible refine r_make ?_
  | with_reducible refine r_prop ?_
  | with_reducible refine r_fldS ?_
  | with_reducible refine r_sfld ?_
  | with_reducible refine r_fldaug ?_
  | with_reducible refine r_iRgo ?_
  | with_reducible refine r_callS ?_)
namespace K83
section
variable {P : Program} {w : World} {K : PySem.W.Frag} {mg : Str → Option Value} {base : Heap}
/-- a method or a getter of a mirror: the object -/
theorem at_m {H : Hp} {a p : Addr} {st cp : Nat} {rs : List Int} {f : Str} {R : Prop} (m : Mir K H a p st cp rs) (hf : (flds st cp p).lookup f = none) (q : R) : ∃ a' dx fs, V.ref a = .ref a' ∧ H a' = some (.ins (CM K) dx fs) ∧ fs.lookup f = none ∧ R := by
  obtain ⟨⟨dx, h⟩, _⟩ := m
  exact ⟨a, dx, _, rfl, h, hf, q⟩
theorem at_p {H : Hp} {a p : Addr} {st cp : Nat} {rs : List Int} {R : Addr → Prop} (m : Mir K H a p st cp rs) (q : R a) : ∃ a' dx fs, V.ref a = .ref a' ∧ H a' = some (.ins (CM K) dx fs) ∧ R a' := by
  obtain ⟨⟨dx, h⟩, _⟩ := m
  exact ⟨a, dx, _, rfl, h, q⟩
abbrev s_Mirror_rows : Stmt := inn 13 1
theorem sc_Mirror_rows : FnScope ["self"] ["self"] (defScope s_Mirror_rows) := ⟨rfl, rfl, rfl, by decide +kernel, rfl, by decide +kernel, by decide +kernel⟩
def sp_rows (K : PySem.W.Frag) : Sp := fun vs H Q _ => ∃ a p st cp rs, vs = [.ref a] ∧ Mir K H a p st cp rs ∧ ∀ q H', H q = none → Ex H H' → SqT K H' q (rs.map V.int) → Q (.ref q) H'
theorem ok_rows (C : Cx0 K mg base) : PrpE P w K mg base 1 (He.ga K "Mirror") "rows" ["self"] (sp_rows K) := by
  have cM := clM C
  have nA := noat C
  refine C.prpE (qual := "Mirror.rows") 0 33 rfl (by decide +kernel) rfl sc_Mirror_rows (fun _ _ _ _ _ _ us hl => match us, hl with | [_], _ => rfl) (fun vs H Q E h => ?_) (fun f cdv A outer s H vs Q E hr h => ⟨_, PSs.nox
    (pss_one (ps_ret (pe_bt (k_tuple (K := K) rfl) (C.free 21) (by decide +kernel) (pa_cons (k_fld (K := K) rfl (pv 0)) pa_nil)))), ?_⟩)
  · obtain ⟨a, p, st, cp, rs, rfl, _⟩ := h
    rfl
  · obtain ⟨a, p, st, cp, rs, rfl, m, k⟩ := h
    repeat walk_at "rd"
    refine fl_rows C m ?_
    repeat walk_at "rd"
    refine r_tupL (sqL_of m.2) fun q hq => ?_
    exact k q _ hq (Ex.new hq) sqT_new
def pairF (rs : List Int) (st : Nat) (i : Nat) : Option (List Int) := (rs[st + i * st - 1]?).map fun x => [x + 1, ((st + i * st : Nat) : Int)]
def pairL (rs : List Int) (st cp : Nat) : List (List Int) := (List.range (cp / st)).filterMap (pairF rs st)
abbrev s_Mirror_pairs : Stmt := inn 13 2
theorem sc_Mirror_pairs : FnScope ["self", "ends", "many"] ["self"] (defScope s_Mirror_pairs) := ⟨rfl, rfl, rfl, by decide +kernel, rfl, by decide +kernel, by decide +kernel⟩
def sp_pairs (K : PySem.W.Frag) : Sp := fun vs H Q _ => ∃ a p st cp rs, vs = [.ref a] ∧ Mir K H a p st cp rs ∧ 1 ≤ st ∧ st ≤ 100 ∧ cp ≤ rs.length ∧ rs.length ≤ 600 ∧ ∀ q H' us, H q = none → Ex H H' → SqT K H' q us → Rws K H' us (pairL rs st cp) → Q (.ref q) H'
theorem ok_pairs (C : Cx0 K mg base) : PrpE P w K mg base 1 (He.ga K "Mirror") "pairs" ["self"] (sp_pairs K) := by
  have cM := clM C
  have nA := noat C
  refine C.prpE (qual := "Mirror.pairs") 1 33 rfl (by decide +kernel) rfl sc_Mirror_pairs (fun _ _ _ _ _ _ us hl => match us, hl with | [_], _ => rfl) (fun vs H Q E h => ?_) (fun f cdv A outer s H vs Q E hr h => ⟨_, PSs.nox
    (pss_cons (ps_set (i := 1) sc_Mirror_pairs.nd rfl (Or.inl rfl) (pe_bt cr_range3 (C.free 17) (by decide +kernel) (pa_cons (k_fld (K := K) rfl (pv 0)) (pa_cons (pe_op (k_add (K := K) rfl) (k_fld (K := K) rfl (pv 0)) pe_int) (pa_cons (k_fld (K := K) rfl (pv 0)) pa_nil)))))
      (pss_one (ps_ret (pe_bt (k_tuple (K := K) rfl) (C.free 21) (by decide +kernel) (pa_cons (pe_lc (own := [("many", 2)]) rfl sc_Mirror_pairs.nd (pi_rgo (pv 1)) (blkOk_by (N := ["self", "ends", "many"]) (sc := defScope s_Mirror_pairs) (by decide +kernel)) (fun _ _ _ _ _ => (pg_name (i := 2) sc_Mirror_pairs.nd rfl (Or.inl rfl))) (fun _ _ _ _ _ => pts_nil) (fun _ _ _ _ _ => (pe_tup (pa_cons (pe_op (k_add (K := K) rfl) (pe_ix (k_ix (K := K) rfl) (k_fld (K := K) rfl (pv 0)) (pe_op op_sub (pv 2) pe_int) (fun _ _ => rfl)) pe_int) (pa_cons (pv 2) pa_nil))))) pa_nil))))), ?_⟩)
  · obtain ⟨a, p, st, cp, rs, rfl, _⟩ := h
    rfl
  · obtain ⟨a, p, st, cp, rs, rfl, m, s1, s2, c1, c2, k⟩ := h
    repeat walk_at "rd"
    refine fl_step C m ?_
    repeat walk_at "rd"
    refine fl_cop C m ?_
    repeat walk_at "rd"
    refine fl_step C m ?_
    repeat walk_at "rd"
    refine r_range3 (by omega) (by omega) fun e he => ?_
    repeat walk_at "rd"
    refine ⟨e, st, (cp : Int) + 1, st, cp / st, rfl, upd_same, rgc_st s1 (by omega) (by omega), ?_⟩
    refine c_wR (K := K) walk_rangeC (pairF rs st) (Nat.lt_of_le_of_lt (Nat.div_le_self _ _) (by omega)) (fun _ => rfl) ?_ ?_
    · intro i H1 q N hi e1 hq hN
      have m1 := m.ex ((Ex.new he).trans e1)
      have hi2 : st + i * st ≤ cp := by
        have a1 := Nat.div_mul_le_self cp st
        have a2 : (i + 1) * st ≤ cp / st * st := Nat.mul_le_mul_right st hi
        rw [Nat.add_mul, Nat.one_mul] at a2
        omega
      have hx : rs[st + i * st - 1]? = some rs[st + i * st - 1] := List.getElem?_eq_getElem (by omega)
      have ev : (st : Int) + (i : Nat) * (st : Int) = ((st + i * st : Nat) : Int) := by
        rw [Int.natCast_add, Int.natCast_mul]
      have ev1 : ((st + i * st : Nat) : Int) - 1 = ((st + i * st - 1 : Nat) : Int) := by omega
      repeat walk_at "rd"
      refine fl_rows C m1 ?_
      repeat walk_at "rd"
      rw [ev, ev1]
      refine r_ixLI (sqL_of m1.2) hx ?_
      repeat walk_at "rd"
      refine ⟨(show 2 ≤ sizeLine by decide), fun r hr2 => ?_⟩
      exact hq _ [rs[st + i * st - 1] + 1, ((st + i * st : Nat) : Int)] _ (by unfold pairF; rw [hx]; rfl) (Ex.new hr2) ⟨r, rfl, sqT_new⟩
    · intro L H1 us hL e1 hl ll rw'
      repeat walk_at "rd"
      refine r_tupL (sqL_of hl) fun q hq => ?_
      exact k q _ us ((Ex.new he).free (e1.free hq)) (((Ex.new he).trans e1).trans (Ex.new hq)) sqT_new (rw'.ex (Ex.new hq))
def toldD (st cp : Nat) (rs : List Int) : PyData := .tuple [.int st, .int cp, .tuple (dI rs)]
abbrev s_Mirror_told : Stmt := inn 13 3
theorem sc_Mirror_told : FnScope ["self"] ["self"] (defScope s_Mirror_told) := ⟨rfl, rfl, rfl, by decide +kernel, rfl, by decide +kernel, by decide +kernel⟩
def sp_told (K : PySem.W.Frag) : Sp := fun vs H Q _ => ∃ a p st cp rs, vs = [.ref a] ∧ Mir K H a p st cp rs ∧ ∀ q H', H q = none → Ex H H' → Dp K H' (.ref q) (toldD st cp rs) → Q (.ref q) H'
theorem ok_told (C : Cx0 K mg base) : MetE P w K mg base 3 (He.ga K "Mirror") "told" ["self"] (sp_told K) := by
  have p_rows := ok_rows (P := P) (w := w) C
  have cM := clM C
  have nA := noat C
  refine C.met 16 35 33 rfl rfl rfl sc_Mirror_told (fun _ _ _ _ _ _ us hl => match us, hl with | [_], _ => rfl) (fun vs H Q E h => ?_) (fun f cdv A outer s H vs Q E hr h => ⟨_, PSs.nox
    (pss_one (ps_ret (pe_tup (pa_cons (k_fld (K := K) rfl (pv 0)) (pa_cons (k_fld (K := K) rfl (pv 0)) (pa_cons (pe_pr p_rows hr (by first | decide | omega) passP (pv 0)) pa_nil)))))), ?_⟩)
  · obtain ⟨a, p, st, cp, rs, rfl, _⟩ := h
    rfl
  · obtain ⟨a, p, st, cp, rs, rfl, m, k⟩ := h
    repeat walk_at "rd"
    refine fl_step C m ?_
    repeat walk_at "rd"
    refine fl_cop C m ?_
    repeat walk_at "rd"
    refine at_p m ?_
    refine ⟨a, p, st, cp, rs, rfl, m, fun q H1 hq e1 h1 => ?_⟩
    repeat walk_at "rd"
    refine ⟨(show 3 ≤ sizeLine by decide), fun r hr2 => ?_⟩
    exact k r _ (e1.free hr2) (e1.trans (Ex.new hr2)) (.tup sqT_new (.cons (.int _) (.cons (.int _) (.cons (dp_t (sqT_up hr2 h1)) .nil))))
theorem lay_told (st cp : Nat) (rs : List Int) : (toldD st cp rs).canLay0 = true := by
  simp only [toldD, PyData.canLay0, PyData.canLayAll0, lay_I, Bool.and_true, Bool.and_self]
theorem dep_told (st cp : Nat) (rs : List Int) : (toldD st cp rs).depth = 2 := by
  simp only [toldD, PyData.depth, PyData.depthAll, dep_I]
  rfl
theorem sh_told (st cp : Nat) (rs : List Int) : SeqAt.shaped (toldD st cp rs) = true := sh_of (lay_told st cp rs) (by rw [dep_told]; decide)
theorem eqv_told (st cp st' cp' : Nat) (rs rs' : List Int) : PyData.eqv (toldD st cp rs) (toldD st' cp' rs') = decide (st = st' ∧ cp = cp' ∧ rs = rs') := by
  simp only [toldD, PyData.eqv, PyData.eqvAll, eqv_I, Bool.and_true]
  rw [Bool.eq_iff_iff]
  simp [Int.ofNat_inj]
abbrev s_Mirror___eq__ : Stmt := inn 13 4
theorem sc_Mirror___eq__ : FnScope ["self", "other"] ["self", "other"] (defScope s_Mirror___eq__) := ⟨rfl, rfl, rfl, by decide +kernel, rfl, by decide +kernel, by decide +kernel⟩
def sp_eq (K : PySem.W.Frag) : Sp := fun vs H Q _ => ∃ a p st cp rs b p' st' cp' rs', vs = [.ref a, .ref b] ∧ Mir K H a p st cp rs ∧ Mir K H b p' st' cp' rs' ∧ ∀ H', Ex H H' → Q (.bl (decide (st = st' ∧ cp = cp' ∧ rs = rs'))) H'
theorem ok_eq (C : Cx0 K mg base) : MetE P w K mg base 4 (He.ga K "Mirror") "__eq__" ["self", "other"] (sp_eq K) := by
  have m_told := ok_told (P := P) (w := w) C
  have insC := C.insC (x := "Mirror") 33 List.mem_cons_self rfl
  refine (C.met2 17 36 33 rfl rfl rfl sc_Mirror___eq__ rfl (fun _ _ _ _ _ _ us hl => match us, hl with | [_, _], _ => rfl) (fun _ _ _ _ _ _ _ ws hl => match ws, hl with | [_], _ => rfl) (fun vs H Q E h => ?_) (fun f cdv A outer s H vs Q E hr h => ⟨_, PSs.nox
    (pss_one (ps_ret (pe_and (pe_bi (k_isC (K := K) rfl insC) (C.free 19) (by decide +kernel) (pa_cons (pv 1) (pa_cons (pe_glob (v := .ref _) rfl (He.glo_ok C.kin C.glob (C.says.fact 32 rfl)) rfl) pa_nil))) (pe_one (pe_cmpR (k_eq (K := K) rfl hr) (pe_me0 m_told hr (by first | decide | omega) passL (pv 0)) (pe_me0 m_told hr (by first | decide | omega) passL (pv 1)) (nomark _)))))), ?_⟩)).1
  · obtain ⟨a, p, st, cp, rs, b, p', st', cp', rs', rfl, _⟩ := h
    rfl
  · obtain ⟨a, p, st, cp, rs, b, p', st', cp', rs', rfl, m, m', k⟩ := h
    repeat walk_at "rd"
    refine r_isC m'.1.choose_spec ?_
    repeat walk_at "rd"
    refine at_m m rfl ?_
    refine ⟨a, p, st, cp, rs, rfl, m, fun q H1 hq e1 h1 => ?_⟩
    repeat walk_at "rd"
    refine at_m (m'.ex e1) rfl ?_
    refine ⟨b, p', st', cp', rs', rfl, m'.ex e1, fun q' H2 hq' e2 h2 => ?_⟩
    refine r_eqE (Dp.ex e2 h1) h2 (sh_told _ _ _) (sh_told _ _ _) ?_
    rw [eqv_told]
    exact k _ (e1.trans e2)
abbrev s_Mirror_twin : Stmt := inn 13 5
theorem sc_Mirror_twin : FnScope ["self", "found"] ["self"] (defScope s_Mirror_twin) := ⟨rfl, rfl, rfl, by decide +kernel, rfl, by decide +kernel, by decide +kernel⟩
def sp_twin (K : PySem.W.Frag) : Sp := fun vs H Q _ => ∃ a p st cp rs, vs = [.ref a] ∧ Mir K H a p st cp rs ∧ 1 ≤ st ∧ st ≤ 100 ∧ ∀ b p' H', H b = none → H p' = none → Ex H H' → Mir K H' b p' st cp rs → Q (.ref b) H'
theorem ok_twin (C : Cx0 K mg base) (o_BadArgument : OBad P w K mg base) : MetE P w K mg base 6 (He.ga K "Mirror") "twin" ["self"] (sp_twin K) := by
  have mk_Mirror := (ok_init (P := P) (w := w) C o_BadArgument).1
  have cM := clM C
  have nA := noat C
  refine C.met 18 37 33 rfl rfl rfl sc_Mirror_twin (fun _ _ _ _ _ _ us hl => match us, hl with | [_], _ => rfl) (fun vs H Q E h => ?_) (fun f cdv A outer s H vs Q E hr h => ⟨_, PSs.nox
    (pss_cons (ps_set (i := 1) sc_Mirror_twin.nd rfl (Or.inl rfl) (pe_mkE mk_Mirror hr (by first | decide | omega) passL (pa_cons (k_fld (K := K) rfl (pv 0)) pa_nil)))
      (pss_cons (k_sfld (K := K) rfl (pv 1) (k_fld (K := K) rfl (pv 0)))
      (pss_cons (k_sfld (K := K) rfl (pv 1) (pe_bt (k_list (K := K) rfl) (C.free 22) (by decide +kernel) (pa_cons (k_fld (K := K) rfl (pv 0)) pa_nil)))
      (pss_one (ps_ret (pv 1)))))), ?_⟩)
  · obtain ⟨a, p, st, cp, rs, rfl, _⟩ := h
    rfl
  · obtain ⟨a, p, st, cp, rs, rfl, m, s1, s2, k⟩ := h
    repeat walk_at "rd"
    refine fl_step C m ?_
    repeat walk_at "rd"
    refine new_mir (.int _) (fun e => ?_) (fun st' es l1 l2 b p' H1 hb hp e1 m1 => ?_)
    · rw [inB_yes (by omega) (by omega)] at e
      cases e
    obtain rfl : st = st' := by
      injection es with es
      omega
    repeat walk_at "rd"
    have ma := m.ex e1
    refine fl_cop C ma ?_
    obtain ⟨⟨dx, h1⟩, h2⟩ := m1
    repeat walk_at "rd"
    refine ⟨b, CM K, dx, _, rfl, h1, cM, nA.2.1, (show 3 < 1000 by decide), ?_⟩
    repeat walk_at "rd"
    have nab : a ≠ b := fun z => by
      obtain ⟨⟨_, h⟩, _⟩ := m
      rw [z, hb] at h; cases h
    have npb : p ≠ b := fun z => by
      have h := m.2
      rw [z, hb] at h; cases h
    have m2 : Mir K (upd H1 b (.ins (CM K) dx (putF "copied" (.int cp) (flds st 0 p')))) a p st cp rs := by
      obtain ⟨⟨d2, g1⟩, g2⟩ := ma
      exact ⟨⟨d2, (upd_ne nab).trans g1⟩, (upd_ne npb).trans g2⟩
    refine fl_rows C m2 ?_
    repeat walk_at "rd"
    refine r_listL (sqL_of m2.2) fun q hq => ?_
    repeat walk_at "rd"
    have nq : b ≠ q := fun z => by rw [← z, upd_same] at hq; cases hq
    refine ⟨b, CM K, dx, _, rfl, (upd_ne nq).trans upd_same, cM, nA.2.2, (show 3 < 1000 by decide), ?_⟩
    repeat walk_at "rd"
    have hq0 : H1 q = none := by
      rw [upd_ne nq.symm] at hq
      exact hq
    refine k b q _ hb (e1.free hq0) (fun c o h => ?_) ⟨⟨dx, upd_same⟩, (upd_ne nq.symm).trans upd_same⟩
    have nc : c ≠ b := fun z => by rw [z, hb] at h; cases h
    have nc' : c ≠ q := fun z => by rw [z, e1.free hq0] at h; cases h
    exact (upd_ne nc).trans ((upd_ne nc').trans ((upd_ne nc).trans (e1 c o h)))
end
end K83

namespace K83
section
variable {P : Program} {w : World} {K : PySem.W.Frag} {mg : Str → Option Value} {base : Heap}
/-- whether a value has the form of a step -/
def rowD : List PyData → Bool
  | [.int i] => decide (0 ≤ i) && decide (i ≤ 1000000)
  | _ => false
def stepD : PyData → Bool
  | .tuple (.str x :: r) => if x = "copy" then decide (r.length = 0) else decide (x = "row") && rowD r
  | _ => false
theorem stepD_copy {x : Str} {r : List PyData} (c : x = "copy") : stepD (.tuple (.str x :: r)) = decide (r.length = 0) := by
  show (if x = "copy" then _ else _) = _
  rw [if_pos c]
theorem stepD_row {x : Str} {r : List PyData} (c : ¬ x = "copy") : stepD (.tuple (.str x :: r)) = (decide (x = "row") && rowD r) := by
  show (if x = "copy" then _ else _) = _
  rw [if_neg c]
theorem inB_str {lo hi : Int} {x : Str} : inB lo hi (.str x) = false := rfl
theorem inB_dp {H : Hp} {v : V} {d : PyData} {lo hi : Int} (h : Dp K H v d) : inB lo hi v = (match d with | .int i => decide (lo ≤ i) && decide (i ≤ hi) | _ => false) := by
  cases h <;> rfl
abbrev s_Mirror_is_step : Stmt := inn 13 6
theorem sc_Mirror_is_step : FnScope ["self", "step"] ["self", "step"] (defScope s_Mirror_is_step) := ⟨rfl, rfl, rfl, by decide +kernel, rfl, by decide +kernel, by decide +kernel⟩
def sp_is_step (K : PySem.W.Frag) : Sp := fun vs H Q _ => ∃ a v d, vs = [.ref a, v] ∧ Dp K H v d ∧ SeqAt.shaped d = true ∧ ∀ H', Ex H H' → Q (.bl (stepD d)) H'
theorem ok_is_step (C : Cx0 K mg base) : MetE P w K mg base 3 (He.ga K "Mirror") "is_step" ["self", "step"] (sp_is_step K) := by
  have c_is_in := ok_is_in (P := P) (w := w) C
  have c_is_tuple_of := ok_is_tuple_of (P := P) (w := w) C
  refine (C.met2 19 38 33 rfl rfl rfl sc_Mirror_is_step rfl (fun _ _ _ _ _ _ us hl => match us, hl with | [_, _], _ => rfl) (fun _ _ _ _ _ _ _ ws hl => match ws, hl with | [_], _ => rfl) (fun vs H Q E h => ?_) (fun f cdv A outer s H vs Q E hr h => ⟨_, PSs.nox
    (pss_cons (ps_if (PW.pt (pw_or (pt_not (k_truth (K := K) rfl (pe_bi (k_isi (K := K) rfl) (C.free 19) (by decide +kernel) (pa_cons (pv 1) (pa_cons (pe_ty "tuple" (C.free 21)) pa_nil))) (by intro _; rfl))) (pw_or (pt_cmpR (k_eq (K := K) rfl hr) (pv 1) (pe_tup pa_nil) (nomark _)) (pw_or1 (pt_not (k_truth (K := K) rfl (pe_bi (k_isi (K := K) rfl) (C.free 19) (by decide +kernel) (pa_cons (pe_ix (k_ix (K := K) rfl) (pv 1) pe_int (fun _ _ => rfl)) (pa_cons (pe_ty "str" (C.free 28)) pa_nil))) (by intro _; rfl))))))) (pss_one (ps_ret pe_bl)) pss_nil)
      (pss_cons (ps_if (pt_cmpR (k_eq (K := K) rfl hr) (pe_ix (k_ix (K := K) rfl) (pv 1) pe_int (fun _ _ => rfl)) pe_str (nomark _)) (pss_one (ps_ret (pe_cmpR (k_eq (K := K) rfl hr) (pe_bi (k_len (K := K) rfl) (C.free 23) (by decide +kernel) (pa_cons (pv 1) pa_nil)) pe_int (nomark _)))) pss_nil)
      (pss_one (ps_ret (pe_and (pe_cmpR (k_eq (K := K) rfl hr) (pe_ix (k_ix (K := K) rfl) (pv 1) pe_int (fun _ _ => rfl)) pe_str (nomark _)) (pe_and (pe_f c_is_tuple_of hr (by first | decide | omega) passL (pa_cons (pv 1) (pa_cons pe_int pa_nil))) (pe_one (pe_f c_is_in hr (by first | decide | omega) passL (pa_cons (pe_ix (k_ix (K := K) rfl) (pv 1) pe_int (fun _ _ => rfl)) (pa_cons pe_int (pa_cons (pe_gi (C.int 30)) pa_nil))))))))))), ?_⟩)).1
  · obtain ⟨a, v, d, rfl, _⟩ := h
    rfl
  · obtain ⟨a, v, d, rfl, dp, sh, k⟩ := h
    repeat walk_at "rd"
    refine r_isiK (Dp.ty dp) (by decide) ?_
    rw [isT_tup]
    cases dp with
    | tup ht hd =>
      rename_i b us ds
      repeat walk_at "rd"
      refine ⟨(show 0 ≤ sizeLine by decide), fun q hq => ?_⟩
      refine r_eqE (d := .tuple ds) (e := .tuple []) (.tup (sqT_up hq ht) (DpA.ex (Ex.new hq) hd)) (.tup sqT_new .nil) sh (by decide +kernel) ?_
      refine ⟨_, rfl, ?_⟩
      cases hd with
      | nil =>
        rw [show PyData.eqv (.tuple []) (.tuple []) = true from by decide +kernel]
        repeat walk_at "rd"
        exact k _ (Ex.new hq)
      | cons h0 hd =>
        rename_i v0 vs0 d0 ds0
        rw [show PyData.eqv (.tuple (d0 :: ds0)) (.tuple []) = false from by simp only [PyData.eqv, PyData.eqvAll]]
        repeat walk_at "rd"
        refine r_ixT (i := 0) (sqT_up hq ht) at_0 ?_
        repeat walk_at "rd"
        refine r_isiK (Dp.ty (Dp.ex (Ex.new hq) h0)) (by decide) ?_
        rw [isT_str]
        cases h0 with
        | str x =>
          repeat walk_at "rd"
          refine r_ixT (i := 0) (sqT_up hq ht) at_0 ?_
          repeat walk_at "rd"
          refine r_D (fun c => ?_) (fun c => ?_)
          · repeat walk_at "rd"
            refine r_lenT (sqT_up hq ht) ?_
            repeat walk_at "rd"
            have := k _ (Ex.new (o := .tup []) hq)
            rw [stepD_copy c] at this
            rw [List.length_cons, DpA.length hd]
            rw [show decide (((ds0.length + 1 : Nat) : Int) = 1) = decide (ds0.length = 0) by rw [Bool.eq_iff_iff, decide_eq_true_iff, decide_eq_true_iff]; omega]
            exact this
          · have k := k _ (Ex.new (o := .tup []) hq)
            rw [stepD_row c] at k
            repeat walk_at "rd"
            refine r_ixT (i := 0) (sqT_up hq ht) at_0 ?_
            repeat walk_at "rd"
            refine r_D (fun c2 => ?_) (fun c2 => ?_)
            · rw [decide_eq_true c2, Bool.true_and] at k
              repeat walk_at "rd"
              refine ⟨_, .tuple (.str x :: ds0), 2, rfl, .tup (sqT_up hq ht) (.cons (.str x) (DpA.ex (Ex.new hq) hd)), ?_⟩
              refine ⟨_, rfl, ?_⟩
              cases hd with
              | nil =>
                refine r_F (show tupD 2 (.tuple [.str x]) = false from rfl) ?_
                exact k
              | @cons v1 vs1 d1 ds1 h1 hd =>
                cases hd with
                | nil =>
                  refine r_T (show tupD 2 (.tuple [.str x, d1]) = true from rfl) ?_
                  repeat walk_at "rd"
                  refine r_ixT (i := 1) (sqT_up hq ht) at_1 ?_
                  repeat walk_at "rd"
                  refine ⟨v1, _, 0, 1000000, rfl, Dp.ty (Dp.ex (Ex.new hq) h1), ?_⟩
                  rw [inB_dp h1]
                  cases h1 <;> exact k
                | @cons v2 vs2 d2 ds2 h2 hd =>
                  refine r_F (show tupD 2 (.tuple (.str x :: d1 :: d2 :: ds2)) = false by unfold tupD; exact decide_eq_false (by simp only [List.length_cons]; omega)) ?_
                  cases d1 <;> exact k
            · rw [decide_eq_false c2, Bool.false_and] at k
              exact k
        | _ =>
          repeat walk_at "rd"
          exact k _ (Ex.new hq)
    | _ =>
      repeat walk_at "rd"
      exact k _ (Ex.refl _)
abbrev s_Mirror_do : Stmt := inn 13 7
theorem sc_Mirror_do : FnScope ["self", "step"] ["self", "step"] (defScope s_Mirror_do) := ⟨rfl, rfl, rfl, by decide +kernel, rfl, by decide +kernel, by decide +kernel⟩
/-- what a step does -/
def sp_do (K : PySem.W.Frag) : Sp := fun vs H Q E => ∃ a p st cp rs v d, vs = [.ref a, v] ∧ Mir K H a p st cp rs ∧ cp ≤ rs.length ∧ rs.length ≤ 600 ∧ Dp K H v d ∧ SeqAt.shaped d = true ∧ (stepD d = false → Refuses K "step" H E) ∧
  (d = .tuple [.str "copy"] → cp = rs.length → Words K "copy" H E) ∧ (d = .tuple [.str "copy"] → cp < rs.length → ∀ H', EB [a, p] H H' → Mir K H' a p st (cp + 1) rs → Q .non H') ∧
  (∀ n : Int, d = .tuple [.str "row", .int n] → 0 ≤ n → n ≤ 1000000 → (600 ≤ rs.length ∨ ∃ l, rs[rs.length - 1]? = some l ∧ n ≤ l) → Words K "row" H E) ∧
  (∀ n : Int, d = .tuple [.str "row", .int n] → 0 ≤ n → n ≤ 1000000 → rs.length < 600 → (∀ l, rs[rs.length - 1]? = some l → l < n) → ∀ H', EB [a, p] H H' → Mir K H' a p st cp (rs ++ [n]) → Q .non H')
theorem stepD_cases {d : PyData} (h : stepD d = true) : d = .tuple [.str "copy"] ∨ ∃ n : Int, d = .tuple [.str "row", .int n] ∧ 0 ≤ n ∧ n ≤ 1000000 := by
  match d, h with
  | .tuple (.str x :: r), h =>
    by_cases c : x = "copy"
    · rw [stepD_copy c] at h
      have := List.length_eq_zero_iff.mp (of_decide_eq_true h)
      rw [c, this]
      exact .inl rfl
    · rw [stepD_row c, Bool.and_eq_true] at h
      obtain ⟨h1, h2⟩ := h
      have := of_decide_eq_true h1
      match r, h2 with
      | [.int i], h2 =>
        have h2 : (decide (0 ≤ i) && decide (i ≤ 1000000)) = true := h2
        rw [Bool.and_eq_true] at h2
        rw [this]
        exact .inr ⟨i, rfl, of_decide_eq_true h2.1, of_decide_eq_true h2.2⟩
theorem ok_do (C : Cx0 K mg base) (o_BadArgument : OBad P w K mg base) (o_NotPossible : ONot P w K mg base) : MetE P w K mg base 4 (He.ga K "Mirror") "do" ["self", "step"] (sp_do K) ∧ MetK P w K mg base 4 (He.ga K "Mirror") "do" ["step"] (sp_do K) (fun xs zs => xs ++ zs) := by
  have m_is_step := ok_is_step (P := P) (w := w) C
  have cM := clM C
  have nA := noat C
  refine C.met2 20 39 33 rfl rfl rfl sc_Mirror_do rfl (fun _ _ _ _ _ _ us hl => match us, hl with | [_, _], _ => rfl) (fun _ _ _ _ _ _ _ ws hl => match ws, hl with | [_], _ => rfl) (fun vs H Q E h => ?_) (fun f cdv A outer s H vs Q E hr h => ⟨_,
    (pss_cons (ps_if (pt_not (k_truth (K := K) rfl (pe_me m_is_step hr (by first | decide | omega) (passes_call (takes_of rfl rfl rfl rfl) fun _ _ _ _ h => h) (pv 0) (pa_cons (pv 1) pa_nil)) (by intro _; rfl))) (pss_one (ps_own (K := K) rfl o_BadArgument rfl (takes_of rfl rfl rfl rfl) hr (by decide) passL pe_str)) pss_nil)
      (pss_one (ps_if (pt_cmpR (k_eq (K := K) rfl hr) (pe_ix (k_ix (K := K) rfl) (pv 1) pe_int (fun _ _ => rfl)) pe_str (nomark _)) (pss_cons (ps_if (pt_cmpR (k_eq (K := K) rfl hr) (k_fld (K := K) rfl (pv 0)) (pe_bi (k_len (K := K) rfl) (C.free 23) (by decide +kernel) (pa_cons (k_fld (K := K) rfl (pv 0)) pa_nil)) (nomark _)) (pss_one (ps_own (K := K) rfl o_NotPossible rfl (takes_of rfl rfl rfl rfl) hr (by decide) passL (pe_ix (k_ix (K := K) rfl) (pv 1) pe_int (fun _ _ => rfl)))) pss_nil)
      (pss_one (k_fldaug (K := K) rfl (pv 0) pe_int in_add))) (pss_cons (ps_if (PW.pt (pw_or (pt_cmpR (k_ge (K := K) rfl hr) (pe_bi (k_len (K := K) rfl) (C.free 23) (by decide +kernel) (pa_cons (k_fld (K := K) rfl (pv 0)) pa_nil)) (pe_gi (C.int 31)) (nomark _)) (pw_or1 (PW.pt (pw_and (pt_cmpR (k_gt (K := K) rfl hr) (pe_bi (k_len (K := K) rfl) (C.free 23) (by decide +kernel) (pa_cons (k_fld (K := K) rfl (pv 0)) pa_nil)) pe_int (nomark _)) (pw_and1 (pt_cmpR (k_le (K := K) rfl hr) (pe_ix (k_ix (K := K) rfl) (pv 1) pe_int (fun _ _ => rfl)) (pe_ix (k_ix (K := K) rfl) (k_fld (K := K) rfl (pv 0)) (pe_un un_neg pe_int) (fun _ _ => rfl)) (nomark _)))))))) (pss_one (ps_own (K := K) rfl o_NotPossible rfl (takes_of rfl rfl rfl rfl) hr (by decide) passL (pe_ix (k_ix (K := K) rfl) (pv 1) pe_int (fun _ _ => rfl)))) pss_nil)
      (pss_one (ps_expr (k_append (K := K) rfl (k_fld (K := K) rfl (pv 0)) (pe_ix (k_ix (K := K) rfl) (pv 1) pe_int (fun _ _ => rfl))))))))), ?_⟩)
  · obtain ⟨a, p, st, cp, rs, v, d, rfl, _⟩ := h
    rfl
  · obtain ⟨a, p, st, cp, rs, v, d, rfl, m, lc, l6, dp, sh, k1, k2, k3, k4, k5⟩ := h
    repeat walk_at "rd"
    refine at_m m rfl ?_
    repeat walk_at "rd"
    refine ⟨a, v, d, rfl, dp, sh, fun H1 e1 => ?_⟩
    have m1 := m.ex e1
    have dp1 := Dp.ex e1 dp
    refine ⟨_, rfl, ?_⟩
    cases es : stepD d with
    | false =>
      repeat walk_at "rd"
      exact r_mkQ fun d H' f e a => (k1 es).ex e1 d H' f e a
    | true =>
      repeat walk_at "rd"
      rcases stepD_cases es with rfl | ⟨n, rfl, n0, n1⟩
      · cases dp1 with
        | tup ht hd =>
          cases hd with
          | cons h0 hd =>
            cases h0
            repeat walk_at "rd"
            refine r_ixT ht at_0 ?_
            repeat walk_at "rd"
            refine fl_cop C m1 ?_
            repeat walk_at "rd"
            refine fl_rows C m1 ?_
            repeat walk_at "rd"
            refine r_lenLI (sqL_of m1.2) ?_
            repeat walk_at "rd"
            refine r_D (fun c => ?_) (fun c => ?_)
            · repeat walk_at "rd"
              refine r_ixT ht at_0 ?_
              repeat walk_at "rd"
              exact r_mkQ fun d H' f e a => (k2 rfl (by omega)).ex e1 d H' f e a
            · repeat walk_at "rd"
              refine ⟨_, _, _, _, _, rfl, m1.1.choose_spec, cM, nA.2.1, rfl, ?_⟩
              repeat walk_at "rd"
              obtain ⟨⟨dx, g1⟩, g2⟩ := m1
              refine ⟨_, _, rfl, rfl, ?_⟩
              refine ⟨dx, _, g1, (show 3 < 1000 by decide), ?_⟩
              repeat walk_at "rd"
              exact k3 rfl (by omega) _ ((EB.e e1).tr (EB.put List.mem_cons_self)) ⟨⟨dx, upd_same⟩, (upd_ne m.ne.symm).trans g2⟩
      · cases dp1 with
        | tup ht hd =>
          cases hd with
          | cons h0 hd =>
            cases h0
            cases hd with
            | cons h1 hd =>
              cases h1
              cases hd
              repeat walk_at "rd"
              refine r_ixT ht at_0 ?_
              repeat walk_at "rd"
              refine fl_rows C m1 ?_
              repeat walk_at "rd"
              refine r_lenLI (sqL_of m1.2) ?_
              repeat walk_at "rd"
              by_cases c : 600 ≤ rs.length
              · refine r_T (decide_eq_true (by omega)) ?_
                repeat walk_at "rd"
                refine r_ixT ht at_0 ?_
                repeat walk_at "rd"
                exact r_mkQ fun d H' f e a => (k4 n rfl n0 n1 (.inl c)).ex e1 d H' f e a
              refine r_F (decide_eq_false (by omega)) ?_
              repeat walk_at "rd"
              refine fl_rows C m1 ?_
              repeat walk_at "rd"
              refine r_lenLI (sqL_of m1.2) ?_
              repeat walk_at "rd"
              have app : (∀ l, rs[rs.length - 1]? = some l → l < n) → _ := fun hl => k5 n rfl n0 n1 (by omega) hl
              by_cases c0 : 0 < rs.length
              · refine r_T (decide_eq_true (by omega)) ?_
                have hl : rs[rs.length - 1]? = some rs[rs.length - 1] := List.getElem?_eq_getElem (by omega)
                repeat walk_at "rd"
                refine r_ixT ht at_1 ?_
                repeat walk_at "rd"
                refine fl_rows C m1 ?_
                repeat walk_at "rd"
                refine r_ixL (i := -1) (sqL_of m1.2) (at_last (v := .int rs[rs.length - 1]) (by rw [List.length_map, List.getElem?_map, hl]; rfl)) ?_
                repeat walk_at "rd"
                refine r_D (fun c2 => ?_) (fun c2 => ?_)
                · repeat walk_at "rd"
                  refine r_ixT ht at_0 ?_
                  repeat walk_at "rd"
                  exact r_mkQ fun d H' f e a => (k4 n rfl n0 n1 (.inr ⟨_, hl, c2⟩)).ex e1 d H' f e a
                · repeat walk_at "rd"
                  refine fl_rows C m1 ?_
                  refine ⟨.inl ⟨rfl, _, sqL_of m1.2⟩, ?_⟩
                  repeat walk_at "rd"
                  refine r_ixT ht at_1 ?_
                  repeat walk_at "rd"
                  refine r_app m1.2 (by rw [List.length_map]; exact Nat.lt_of_le_of_lt l6 (by decide)) ?_
                  refine app (fun l h => ?_) _ ((EB.e e1).tr (EB.put (List.mem_cons_of_mem _ List.mem_cons_self))) ⟨⟨m1.1.choose, (upd_ne m.ne).trans m1.1.choose_spec⟩, ?_⟩
                  · rw [hl] at h
                    injection h with h
                    omega
                  · rw [List.map_append]
                    exact upd_same
              · refine r_F (decide_eq_false (by omega)) ?_
                repeat walk_at "rd"
                refine fl_rows C m1 ?_
                refine ⟨.inl ⟨rfl, _, sqL_of m1.2⟩, ?_⟩
                repeat walk_at "rd"
                refine r_ixT ht at_1 ?_
                repeat walk_at "rd"
                refine r_app m1.2 (by rw [List.length_map]; exact Nat.lt_of_le_of_lt l6 (by decide)) ?_
                refine app (fun l h => ?_) _ ((EB.e e1).tr (EB.put (List.mem_cons_of_mem _ List.mem_cons_self))) ⟨⟨m1.1.choose, (upd_ne m.ne).trans m1.1.choose_spec⟩, ?_⟩
                · have := (List.getElem?_eq_some_iff.mp h).1
                  omega
                · rw [List.map_append]
                  exact upd_same
end
end K83

namespace K83
section
variable {P : Program} {w : World} {K : PySem.W.Frag} {mg : Str → Option Value} {base : Heap}
/-- how many copied rows stand below m -/
def cnt (rs : List Int) (cp : Nat) (m : Int) : Nat := ((rs.take cp).filter fun x => decide (x < m)).length
abbrev s_Mirror_below : Stmt := inn 13 8
theorem sc_Mirror_below : FnScope ["self", "mark", "place"] ["self", "mark"] (defScope s_Mirror_below) := ⟨rfl, rfl, rfl, by decide +kernel, rfl, by decide +kernel, by decide +kernel⟩
def sp_below (K : PySem.W.Frag) : Sp := fun vs H Q _ => ∃ a p st cp rs m, vs = [.ref a, .int m] ∧ Mir K H a p st cp rs ∧ rs.length ≤ 600 ∧ ∀ H', Ex H H' → Q (.int (cnt rs cp m)) H'
theorem ok_below (C : Cx0 K mg base) : MetE P w K mg base 1 (He.ga K "Mirror") "below" ["self", "mark"] (sp_below K) := by
  have cM := clM C
  have nA := noat C
  refine (C.met2 21 40 33 rfl rfl rfl sc_Mirror_below rfl (fun _ _ _ _ _ _ us hl => match us, hl with | [_, _], _ => rfl) (fun _ _ _ _ _ _ _ ws hl => match ws, hl with | [_], _ => rfl) (fun vs H Q E h => ?_) (fun f cdv A outer s H vs Q E hr h => ⟨_, PSs.nox
    (pss_one (ps_ret (pe_bi (k_len (K := K) rfl) (C.free 23) (by decide +kernel) (pa_cons (pe_lc (own := [("place", 2)]) rfl sc_Mirror_below.nd (k_seq (K := K) rfl (pe_slice (k_sl (K := K) rfl) (k_fld (K := K) rfl (pv 0)) po_none (po_some (k_fld (K := K) rfl (pv 0))))) (blkOk_by (N := ["self", "mark", "place"]) (sc := defScope s_Mirror_below) (by decide +kernel)) (fun _ _ _ _ _ => (pg_name (i := 2) sc_Mirror_below.nd rfl (Or.inl rfl))) (fun _ _ _ _ _ => pts_one (pt_cmpR (k_lt (K := K) rfl hr) (pv 2) (pv 1) (nomark _))) (fun _ _ _ _ _ => pe_int)) pa_nil)))), ?_⟩)).1
  · obtain ⟨a, p, st, cp, rs, n, rfl, _⟩ := h
    rfl
  · obtain ⟨a, p, st, cp, rs, n, rfl, m, l6, k⟩ := h
    repeat walk_at "rd"
    refine fl_rows C m ?_
    repeat walk_at "rd"
    refine fl_cop C m ?_
    repeat walk_at "rd"
    refine r_slL (sqL_of m.2) fun q hq => ?_
    rw [cut_lo, ← List.map_take]
    refine c_fltI (k := .l) (p := fun x => decide (x < n)) (f := fun _ => 1) sqL_new (by rw [List.length_take]; omega) (fun _ => rfl) ?_ ?_
    · intro x H1 q N hx e1 hq hN
      repeat walk_at "rd"
      refine r_D (fun c => ?_) (fun c => ?_)
      · repeat walk_at "rd"
        exact hq _ (decide_eq_true c) (Ex.refl _)
      · repeat walk_at "rd"
        exact hN _ (decide_eq_false c) (Ex.refl _)
    · intro L H1 hL e1 hl
      repeat walk_at "rd"
      refine r_lenL (sqL_of hl) ?_
      rw [List.length_map, List.length_map]
      exact k _ ((Ex.new hq).trans e1)
abbrev s_Mirror_led : Stmt := inn 13 9
theorem sc_Mirror_led : FnScope ["self", "mark", "many"] ["self", "mark"] (defScope s_Mirror_led) := ⟨rfl, rfl, rfl, by decide +kernel, rfl, by decide +kernel, by decide +kernel⟩
def sp_led (K : PySem.W.Frag) : Sp := fun vs H Q E => ∃ a p st cp rs v T, vs = [.ref a, v] ∧ Mir K H a p st cp rs ∧ rs.length ≤ 600 ∧ 1 ≤ st ∧ IsTy K H v T ∧ (inB 0 1000001 v = false → Refuses K "mark" H E) ∧
  ∀ n : Int, v = .int n → 0 ≤ n → n ≤ 1000001 → ∀ H', Ex H H' → Q (.int ((cnt rs cp n - cnt rs cp n % st : Nat) : Int)) H'
theorem ok_led (C : Cx0 K mg base) (o_BadArgument : OBad P w K mg base) : MetE P w K mg base 4 (He.ga K "Mirror") "led" ["self", "mark"] (sp_led K) ∧ MetK P w K mg base 4 (He.ga K "Mirror") "led" ["mark"] (sp_led K) (fun xs zs => xs ++ zs) := by
  have m_below := ok_below (P := P) (w := w) C
  have c_demand := ok_demand (P := P) (w := w) C o_BadArgument
  have c_is_in := ok_is_in (P := P) (w := w) C
  have cM := clM C
  have nA := noat C
  refine C.met2 22 41 33 rfl rfl rfl sc_Mirror_led rfl (fun _ _ _ _ _ _ us hl => match us, hl with | [_, _], _ => rfl) (fun _ _ _ _ _ _ _ ws hl => match ws, hl with | [_], _ => rfl) (fun vs H Q E h => ?_) (fun f cdv A outer s H vs Q E hr h => ⟨_,
    (pss_cons (ps_expr (pe_f c_demand hr (by first | decide | omega) (passes_call (takes_of rfl rfl rfl rfl) fun _ _ _ _ h => h) (pa_cons (pe_f c_is_in hr (by first | decide | omega) (passes_call (takes_of rfl rfl rfl rfl) fun _ _ _ _ h => h) (pa_cons (pv 1) (pa_cons pe_int (pa_cons (pe_op (k_add (K := K) rfl) (pe_gi (C.int 30)) pe_int) pa_nil)))) (pa_cons pe_str pa_nil))))
      (pss_cons (ps_set (i := 2) sc_Mirror_led.nd rfl (Or.inl rfl) (pe_me m_below hr (by first | decide | omega) (passes_call (takes_of rfl rfl rfl rfl) fun _ _ _ _ h => h) (pv 0) (pa_cons (pv 1) pa_nil)))
      (pss_one (ps_ret (pe_op op_sub (pv 2) (pe_op op_modN (pv 2) (k_fld (K := K) rfl (pv 0)))))))), ?_⟩)
  · obtain ⟨a, p, st, cp, rs, v, T, rfl, _⟩ := h
    rfl
  · obtain ⟨a, p, st, cp, rs, v, T, rfl, m, l6, s1, ty, k1, k2⟩ := h
    repeat walk_at "rd"
    refine ⟨v, T, 0, 1000001, rfl, ty, ?_⟩
    repeat walk_at "rd"
    refine ⟨inB 0 1000001 v, "mark", rfl, fun e => ?_, k1⟩
    cases v with
    | int i =>
      have := inB_int.mp e
      repeat walk_at "rd"
      refine at_m m rfl ?_
      repeat walk_at "rd"
      refine ⟨a, p, st, cp, rs, i, rfl, m, l6, fun H1 e1 => ?_⟩
      repeat walk_at "rd"
      have m1 := m.ex e1
      refine fl_step C m1 ?_
      repeat walk_at "rd"
      refine r_modI (by omega) ?_
      refine ⟨_, _, rfl, rfl, ?_⟩
      have := k2 i rfl this.1 this.2 H1 e1
      rw [Int.fmod_eq_emod_of_nonneg _ (by omega), ← Int.natCast_emod]
      rw [Int.ofNat_sub (Nat.mod_le _ _)] at this
      exact this
    | _ => cases e
abbrev s_Mirror_reread : Stmt := inn 13 10
theorem sc_Mirror_reread : FnScope ["self", "mark"] ["self", "mark"] (defScope s_Mirror_reread) := ⟨rfl, rfl, rfl, by decide +kernel, rfl, by decide +kernel, by decide +kernel⟩
def sp_reread (K : PySem.W.Frag) : Sp := fun vs H Q E => ∃ a p st cp rs v T, vs = [.ref a, v] ∧ Mir K H a p st cp rs ∧ rs.length ≤ 600 ∧ 1 ≤ st ∧ IsTy K H v T ∧ (inB 0 1000001 v = false → Refuses K "mark" H E) ∧
  ∀ n : Int, v = .int n → 0 ≤ n → n ≤ 1000001 → ∀ H', Ex H H' → Q (.int ((cnt rs cp n % st : Nat) : Int)) H'
theorem ok_reread (C : Cx0 K mg base) (o_BadArgument : OBad P w K mg base) : MetE P w K mg base 4 (He.ga K "Mirror") "reread" ["self", "mark"] (sp_reread K) ∧ MetK P w K mg base 4 (He.ga K "Mirror") "reread" ["mark"] (sp_reread K) (fun xs zs => xs ++ zs) := by
  have m_below := ok_below (P := P) (w := w) C
  have c_demand := ok_demand (P := P) (w := w) C o_BadArgument
  have c_is_in := ok_is_in (P := P) (w := w) C
  have cM := clM C
  have nA := noat C
  refine C.met2 23 42 33 rfl rfl rfl sc_Mirror_reread rfl (fun _ _ _ _ _ _ us hl => match us, hl with | [_, _], _ => rfl) (fun _ _ _ _ _ _ _ ws hl => match ws, hl with | [_], _ => rfl) (fun vs H Q E h => ?_) (fun f cdv A outer s H vs Q E hr h => ⟨_,
    (pss_cons (ps_expr (pe_f c_demand hr (by first | decide | omega) (passes_call (takes_of rfl rfl rfl rfl) fun _ _ _ _ h => h) (pa_cons (pe_f c_is_in hr (by first | decide | omega) (passes_call (takes_of rfl rfl rfl rfl) fun _ _ _ _ h => h) (pa_cons (pv 1) (pa_cons pe_int (pa_cons (pe_op (k_add (K := K) rfl) (pe_gi (C.int 30)) pe_int) pa_nil)))) (pa_cons pe_str pa_nil))))
      (pss_one (ps_ret (pe_op op_modN (pe_me m_below hr (by first | decide | omega) (passes_call (takes_of rfl rfl rfl rfl) fun _ _ _ _ h => h) (pv 0) (pa_cons (pv 1) pa_nil)) (k_fld (K := K) rfl (pv 0)))))), ?_⟩)
  · obtain ⟨a, p, st, cp, rs, v, T, rfl, _⟩ := h
    rfl
  · obtain ⟨a, p, st, cp, rs, v, T, rfl, m, l6, s1, ty, k1, k2⟩ := h
    repeat walk_at "rd"
    refine ⟨v, T, 0, 1000001, rfl, ty, ?_⟩
    repeat walk_at "rd"
    refine ⟨inB 0 1000001 v, "mark", rfl, fun e => ?_, k1⟩
    cases v with
    | int i =>
      have := inB_int.mp e
      repeat walk_at "rd"
      refine at_m m rfl ?_
      repeat walk_at "rd"
      refine ⟨a, p, st, cp, rs, i, rfl, m, l6, fun H1 e1 => ?_⟩
      repeat walk_at "rd"
      have m1 := m.ex e1
      refine fl_step C m1 ?_
      repeat walk_at "rd"
      refine r_modI (by omega) ?_
      have := k2 i rfl this.1 this.2 H1 e1
      rw [Int.fmod_eq_emod_of_nonneg _ (by omega), ← Int.natCast_emod]
      exact this
    | _ => cases e
abbrev s_is_led : Stmt := top 14
theorem sc_is_led : FnScope ["step", "again"] ["step", "again"] (defScope s_is_led) := ⟨rfl, rfl, rfl, by decide +kernel, rfl, by decide +kernel, by decide +kernel⟩
def sp_is_led (K : PySem.W.Frag) : Sp := fun vs H Q E => ∃ u v T T', vs = [u, v] ∧ IsTy K H u T ∧ IsTy K H v T' ∧ (inB 1 100 u = false → Refuses K "step" H E) ∧ (inB 1 100 u = true → inB 0 100 v = false → Refuses K "again" H E) ∧
  ∀ i j : Int, u = .int i → v = .int j → 1 ≤ i → i ≤ 100 → 0 ≤ j → j ≤ 100 → Q (.bl (decide (i - 1 ≤ j))) H
theorem ok_is_led (C : Cx0 K mg base) (o_BadArgument : OBad P w K mg base) : Cal P w K mg base 4 "is_led" ["step", "again"] (sp_is_led K) ∧ CalK P w K mg base 4 "is_led" ["again", "step"] (sp_is_led K) (fun zs => zs.reverse) := by
  have c_demand := ok_demand (P := P) (w := w) C o_BadArgument
  have c_is_in := ok_is_in (P := P) (w := w) C
  have len : ∀ vs H Q E, sp_is_led K vs H Q E → vs.length = ["step", "again"].length := fun vs H Q E h => by
    obtain ⟨u, v, T, T', rfl, _⟩ := h
    rfl
  have main : ∀ (f : Addr) (cdv : Value) (A : Around) (outer : List Env) (s : Shared) (H : Hp) (vs : List V) (Q : VK) (E : XK), Room 3 (A.deeper (envOfC "is_led" (defScope s_is_led) s.heap.objs.size f cdv)) → sp_is_led K vs H Q E →
      ∃ t, PSs (cxOf (L2.CX P w) P w K mg base ["step", "again"] "is_led" (defScope s_is_led) f cdv A outer s H E) (defBody s_is_led) t ∧ t { nx := fun _ H' => Q .non H', rt := Q } (start ["step", "again"] vs) H := by
    intro f cdv A outer s H vs Q E hr h
    refine ⟨_, (pss_cons (ps_expr (pe_f c_demand hr (by first | decide | omega) (passes_call (takes_of rfl rfl rfl rfl) fun _ _ _ _ h => h) (pa_cons (pe_f c_is_in hr (by first | decide | omega) (passes_call (takes_of rfl rfl rfl rfl) fun _ _ _ _ h => h) (pa_cons (pv 0) (pa_cons pe_int (pa_cons (pe_gi (C.int 29)) pa_nil)))) (pa_cons pe_str pa_nil))))
      (pss_cons (ps_expr (pe_f c_demand hr (by first | decide | omega) (passes_call (takes_of rfl rfl rfl rfl) fun _ _ _ _ h => h) (pa_cons (pe_f c_is_in hr (by first | decide | omega) (passes_call (takes_of rfl rfl rfl rfl) fun _ _ _ _ h => h) (pa_cons (pv 1) (pa_cons pe_int (pa_cons (pe_gi (C.int 29)) pa_nil)))) (pa_cons pe_str pa_nil))))
      (pss_one (ps_ret (pe_cmpR (k_le (K := K) rfl hr) (pe_op op_sub (pv 0) pe_int) (pv 1) (nomark _)))))), ?_⟩
    obtain ⟨u, v, T, T', rfl, ty, ty', k1, k2, k3⟩ := h
    repeat walk_at "rd"
    refine ⟨u, T, 1, 100, rfl, ty, ?_⟩
    repeat walk_at "rd"
    refine ⟨inB 1 100 u, "step", rfl, fun e => ?_, k1⟩
    repeat walk_at "rd"
    refine ⟨v, T', 0, 100, rfl, ty', ?_⟩
    repeat walk_at "rd"
    refine ⟨inB 0 100 v, "again", rfl, fun e' => ?_, k2 e⟩
    cases u with
    | int i =>
      cases v with
      | int j =>
        have h1 := inB_int.mp e
        have h2 := inB_int.mp e'
        repeat walk_at "rd"
        exact k3 i j rfl rfl h1.1 h1.2 h2.1 h2.2
      | _ => cases e'
    | _ => cases e
  exact ⟨C.cal 4 4 rfl rfl sc_is_led (fun _ _ _ _ _ _ us hl => match us, hl with | [_, _], _ => rfl) len main, C.calK 4 4 rfl rfl sc_is_led (g := fun ws => ws.reverse) (fun zs ws r => r.reverse) (fun _ _ _ _ _ _ ws hl => match ws, hl with | [_, _], _ => rfl) len main⟩
end
end K83

/-! the plain law of mirrors -/
namespace K83
open PB
theorem asc_cnt (m : Int) : ∀ l : List Int, l.Pairwise (· < ·) → ∀ (j : Nat) (h : j < l.length), (l[j] < m ↔ j < (l.filter fun x => decide (x < m)).length)
  | [], _, j, h => absurd h (Nat.not_lt_zero _)
  | x :: xs, p, j, h => by
    obtain ⟨p1, p2⟩ := List.pairwise_cons.mp p
    by_cases c : x < m
    · rw [List.filter_cons_of_pos (p := fun x => decide (x < m)) (decide_eq_true c), List.length_cons]
      cases j with
      | zero => exact ⟨fun _ => Nat.succ_pos _, fun _ => c⟩
      | succ j =>
        rw [List.getElem_cons_succ, asc_cnt m xs p2 j (by simpa using h)]
        omega
    · have no : xs.filter (fun x => decide (x < m)) = [] := List.filter_eq_nil_iff.mpr fun y hy => by
        have := p1 y hy
        rw [decide_eq_true_iff]; omega
      rw [List.filter_cons_of_neg (p := fun x => decide (x < m)) (by rw [decide_eq_true_iff]; exact c), no]
      refine ⟨fun h' => ?_, fun h' => absurd h' (Nat.not_lt_zero _)⟩
      cases j with
      | zero => exact absurd h' c
      | succ j =>
        have h2 : j < xs.length := by simpa using h
        rw [List.getElem_cons_succ] at h'
        have := p1 _ (List.getElem_mem h2)
        omega
theorem cnt_at {rs : List Int} {cp : Nat} {m : Int} (p : rs.Pairwise (· < ·)) {j : Nat} (hj : j < cp) {x : Int} (hx : rs[j]? = some x) : x < m ↔ j < cnt rs cp m := by
  obtain ⟨h1, h2⟩ := List.getElem?_eq_some_iff.mp hx
  have hl : j < (rs.take cp).length := by rw [List.length_take]; omega
  have := asc_cnt m (rs.take cp) (p.sublist (List.take_sublist _ _)) j hl
  rw [List.getElem_take, h2] at this
  exact this
theorem cnt_le {rs : List Int} {cp : Nat} {m : Int} : cnt rs cp m ≤ cp := Nat.le_trans (List.length_filter_le _ _) (by rw [List.length_take]; omega)
/-- the law's own pairs -/
def lawF (rs : List Int) (st : Nat) (i : Nat) : Option (Int × Int) := if (i + 1) % st = 0 then (rs[i]?).map fun x => (x + 1, ((i + 1 : Nat) : Int)) else none
def lawP (rs : List Int) (st cp : Nat) : List (Int × Int) := (List.range cp).filterMap (lawF rs st)
/-- pairs of the mirror and pairs of the law -/
theorem pairs_eq {rs : List Int} {st : Nat} (s1 : 1 ≤ st) : ∀ cp, (lawP rs st cp).map rw2 = pairL rs st cp
  | 0 => by
    unfold lawP pairL
    rw [Nat.zero_div]; rfl
  | cp + 1 => by
    have ih := pairs_eq s1 (rs := rs) cp
    have e : (lawP rs st (cp + 1)).map rw2 = pairL rs st cp ++ ((lawF rs st cp).map rw2).toList := by
      unfold lawP at ih ⊢
      rw [List.range_succ, List.filterMap_append, List.map_append, ih]
      congr 1
      show (List.filterMap (lawF rs st) [cp]).map rw2 = _
      cases h : lawF rs st cp with
      | none => rw [List.filterMap_cons_none h]; rfl
      | some v => rw [List.filterMap_cons_some h]; rfl
    rw [e]
    by_cases c : (cp + 1) % st = 0
    · have hd : (cp + 1) / st = cp / st + 1 := by
        rw [Nat.succ_div, if_pos (Nat.dvd_of_mod_eq_zero c)]
      have hm : st + cp / st * st = cp + 1 := by
        have := Nat.div_add_mod (cp + 1) st
        rw [c, hd, Nat.mul_add, Nat.mul_one, Nat.mul_comm] at this
        omega
      unfold pairL
      rw [hd, List.range_succ, List.filterMap_append]
      congr 1
      have e2 : pairF rs st (cp / st) = (lawF rs st cp).map rw2 := by
        unfold pairF lawF
        rw [if_pos c, hm, Nat.add_sub_cancel, Option.map_map]
        rfl
      show _ = List.filterMap (pairF rs st) [cp / st]
      cases h : lawF rs st cp with
      | none => rw [List.filterMap_cons_none (by rw [e2, h]; rfl)]; rfl
      | some v => rw [List.filterMap_cons_some (by rw [e2, h]; rfl)]; rfl
    · have hd : (cp + 1) / st = cp / st := by
        rw [Nat.succ_div, if_neg (fun h => c (Nat.mod_eq_zero_of_dvd h)), Nat.add_zero]
      have : lawF rs st cp = none := by unfold lawF; rw [if_neg c]
      unfold pairL
      rw [hd, this]
      exact List.append_nil _
/-- those at which a reader may go on -/
def lawM (rs : List Int) (st cp : Nat) (m : Int) : List Int := 0 :: ((lawP rs st cp).filter fun p => decide (p.1 ≤ m)).map Prod.snd
theorem mem_lawP {rs : List Int} {st cp : Nat} {p : Int × Int} : p ∈ lawP rs st cp ↔ ∃ i x, i < cp ∧ (i + 1) % st = 0 ∧ rs[i]? = some x ∧ p = (x + 1, ((i + 1 : Nat) : Int)) := by
  unfold lawP
  rw [List.mem_filterMap]
  constructor
  · rintro ⟨i, hi, h⟩
    unfold lawF at h
    by_cases c : (i + 1) % st = 0
    · rw [if_pos c, Option.map_eq_some_iff] at h
      obtain ⟨x, h1, h2⟩ := h
      exact ⟨i, x, List.mem_range.mp hi, c, h1, h2.symm⟩
    · rw [if_neg c] at h; cases h
  · rintro ⟨i, x, hi, c, hx, rfl⟩
    exact ⟨i, List.mem_range.mpr hi, by unfold lawF; rw [if_pos c, hx]; rfl⟩
theorem place_eq {rs : List Int} {st cp : Nat} {m y : Int} (p : rs.Pairwise (· < ·)) (s1 : 1 ≤ st) (hc : cp ≤ rs.length) (h1 : y ∈ lawM rs st cp m) (h2 : ∀ z ∈ lawM rs st cp m, z ≤ y) : y = ((cnt rs cp m - cnt rs cp m % st : Nat) : Int) := by
  have hb := cnt_le (rs := rs) (cp := cp) (m := m)
  have hm : cnt rs cp m - cnt rs cp m % st = st * (cnt rs cp m / st) := by
    have := Nat.div_add_mod (cnt rs cp m) st
    omega
  have up : y ≤ ((cnt rs cp m - cnt rs cp m % st : Nat) : Int) := by
    rcases List.mem_cons.mp h1 with rfl | h1
    · omega
    · obtain ⟨q, hq, rfl⟩ := List.mem_map.mp h1
      obtain ⟨hq1, hq2⟩ := List.mem_filter.mp hq
      obtain ⟨i, x, hi, c, hx, rfl⟩ := mem_lawP.mp hq1
      have hq2 : x + 1 ≤ m := of_decide_eq_true hq2
      have hlt := (cnt_at p hi hx (m := m)).mp (by omega)
      have hd : (i + 1) / st * st = i + 1 := Nat.div_mul_cancel (Nat.dvd_of_mod_eq_zero c)
      have hle : (i + 1) / st ≤ cnt rs cp m / st := Nat.div_le_div_right hlt
      have := Nat.mul_le_mul_right st hle
      rw [hd, Nat.mul_comm] at this
      show (((i + 1 : Nat)) : Int) ≤ _
      rw [hm]
      omega
  have dn : ((cnt rs cp m - cnt rs cp m % st : Nat) : Int) ≤ y := by
    refine h2 _ ?_
    generalize hk : cnt rs cp m - cnt rs cp m % st = k at *
    cases k with
    | zero => exact List.mem_cons_self
    | succ i =>
      have hlt : i < cnt rs cp m := by omega
      have hx : rs[i]? = some rs[i] := List.getElem?_eq_getElem (by omega)
      have lt := (cnt_at p (by omega) hx (m := m)).mpr hlt
      refine List.mem_cons_of_mem _ (List.mem_map.mpr ⟨(rs[i] + 1, ((i + 1 : Nat) : Int)), List.mem_filter.mpr ⟨mem_lawP.mpr ⟨i, _, by omega, ?_, hx, rfl⟩, decide_eq_true (show rs[i] + 1 ≤ m by omega)⟩, rfl⟩)
      rw [hm]
      exact Nat.mul_mod_right _ _
  omega
/-- the last of a mirror led far beyond -/
theorem cnt_all {rs : List Int} {m : Int} (h : ∀ x ∈ rs, x < m) : cnt rs rs.length m = rs.length := by
  unfold cnt
  rw [List.take_length, List.filter_eq_self.mpr fun x hx => decide_eq_true (h x hx)]
end K83

namespace K83
section
variable {P : Program} {w : World} {K : PySem.W.Frag} {mg : Str → Option Value} {base : Heap}
abbrev s__law_roll : Stmt := top 17
theorem sc__law_roll : FnScope ["dice", "total", "found"] ["dice", "total"] (defScope s__law_roll) := ⟨rfl, rfl, rfl, by decide +kernel, rfl, by decide +kernel, by decide +kernel⟩
def sp_roll : Sp := fun vs H Q _ => ∃ (d : Addr) (t : Int) (n : Nat), vs = [.ref d, .int t] ∧ Dice n H d ∧ n < 1000000000000 ∧ 0 < t ∧ t < 1073741824 ∧
  ∀ r H', 0 ≤ r → r < t → ExB d H H' → Dice (n + 1) H' d → Q (.int r) H'
theorem ok__law_roll (C : Cx0 K mg base) : Cal P w K mg base 1 "_law_roll" ["dice", "total"] sp_roll := by
  refine C.cal 6 6 rfl rfl sc__law_roll (fun _ _ _ _ _ _ us hl => match us, hl with | [_, _], _ => rfl) (fun vs H Q E h => ?_) (fun f cdv A outer s H vs Q E hr h => ⟨_, PSs.nox
    (pss_cons (ps_if (pt_cmpR (k_gt (K := K) rfl hr) (pe_ix (k_ix (K := K) rfl) (pv 0) pe_int (fun _ _ => rfl)) pe_int (nomark _)) (pss_cons (ps_set (i := 2) sc__law_roll.nd rfl (Or.inl rfl) (pe_op op_modN (pe_bt cr_int1 (C.free 20) (by decide +kernel) (pa_cons (pe_ix (k_ix (K := K) rfl) (pv 0) pe_int (fun _ _ => rfl)) pa_nil)) (pv 1)))
      (pss_cons (ps_asg (pe_op op_fdivN (pe_ix (k_ix (K := K) rfl) (pv 0) pe_int (fun _ _ => rfl)) (pv 1)) (pg_sub (pv 0) pe_int set_list))
      (pss_one (ps_ret (pv 2))))) pss_nil)
      (pss_cons (ps_asg (pe_op (k_add (K := K) rfl) (pe_ix (k_ix (K := K) rfl) (pv 0) pe_int (fun _ _ => rfl)) pe_int) (pg_sub (pv 0) pe_int set_list))
      (pss_cons (ps_asg (pe_op op_modN (pe_bt cr_int1 (C.free 20) (by decide +kernel) (pa_cons (pe_op (k_add (K := K) rfl) (pe_op (k_add (K := K) rfl) (pe_op (k_mul (K := K) rfl) (pe_ix (k_ix (K := K) rfl) (pv 0) pe_int (fun _ _ => rfl)) pe_int) (pe_op (k_mul (K := K) rfl) (pe_op (k_mul (K := K) rfl) (pe_ix (k_ix (K := K) rfl) (pv 0) pe_int (fun _ _ => rfl)) (pe_ix (k_ix (K := K) rfl) (pv 0) pe_int (fun _ _ => rfl))) pe_int)) pe_int) pa_nil)) pe_int) (pg_sub (pv 0) pe_int set_list))
      (pss_one (ps_ret (pe_op op_modN (pe_bt cr_int1 (C.free 20) (by decide +kernel) (pa_cons (pe_op op_fdivN (pe_ix (k_ix (K := K) rfl) (pv 0) pe_int (fun _ _ => rfl)) pe_int) pa_nil)) (pv 1))))))), ?_⟩)
  · obtain ⟨d, t, n, rfl, _⟩ := h
    rfl
  · obtain ⟨d, t, n, rfl, ⟨x, y, z, hd, x0, y0, y1, z0, z1⟩, hn, t0, t1, k⟩ := h
    repeat walk_at "rd"
    refine r_ixLI (i := 0) (sqL_of hd) rfl ?_
    repeat walk_at "rd"
    by_cases c : 0 < x
    · refine r_T (decide_eq_true c) ?_
      repeat walk_at "rd"
      refine r_ixLI (i := 0) (sqL_of hd) rfl ?_
      repeat walk_at "rd"
      refine r_modI (by omega) ?_
      repeat walk_at "rd"
      refine r_ixLI (i := 0) (sqL_of hd) rfl ?_
      repeat walk_at "rd"
      refine r_divI ⟨by omega, by omega⟩ ?_
      repeat walk_at "rd"
      refine r_setL (i := 0) hd (show 0 < 3 by decide) ?_
      repeat walk_at "rd"
      rw [Int.fmod_eq_emod_of_nonneg _ (by omega), Int.fdiv_eq_ediv_of_nonneg _ (by omega)]
      exact k _ _ (Int.emod_nonneg _ (by omega)) (Int.emod_lt_of_pos _ t0) ExB.put ⟨x / t, y, z, upd_same, Int.ediv_nonneg x0 (by omega), y0, y1, z0, by omega⟩
    · refine r_F (decide_eq_false c) ?_
      repeat walk_at "rd"
      refine r_ixLI (i := 2) (sqL_of hd) rfl ?_
      repeat walk_at "rd"
      refine r_setL (i := 2) hd (show 2 < 3 by decide) ?_
      repeat walk_at "rd"
      have h1 : upd H d (.lst (List.set ([x, y, z].map V.int) 2 (.int (z + 1)))) d = some (.lst ([x, y, z + 1].map V.int)) := upd_same
      refine r_ixLI (i := 1) (sqL_of h1) rfl ?_
      repeat walk_at "rd"
      refine r_mulI (.inr (by omega)) ?_
      repeat walk_at "rd"
      refine r_ixLI (i := 2) (sqL_of h1) rfl ?_
      repeat walk_at "rd"
      refine r_ixLI (i := 2) (sqL_of h1) rfl ?_
      repeat walk_at "rd"
      refine r_mulI (.inr (by omega)) ?_
      repeat walk_at "rd"
      refine r_mulI (.inr (by omega)) ?_
      repeat walk_at "rd"
      refine r_modI (by decide) ?_
      repeat walk_at "rd"
      refine r_setL (i := 1) h1 (show 1 < 3 by decide) ?_
      repeat walk_at "rd"
      rw [Int.fmod_eq_emod_of_nonneg _ (by decide)]
      obtain ⟨u, eu⟩ : ∃ u, u = (y * 52501 + (z + 1) * (z + 1) * 1009 + 77) % 2147480009 := ⟨_, rfl⟩
      rw [← eu]
      have u0 : 0 ≤ u := by rw [eu]; exact Int.emod_nonneg _ (by decide)
      have u1 : u < 2147480009 := by rw [eu]; exact Int.emod_lt_of_pos _ (by decide)
      have h2 : ∀ H0 : Hp, upd H0 d (.lst (List.set ([x, y, z + 1].map V.int) 1 (.int u))) d = some (.lst ([x, u, z + 1].map V.int)) := fun _ => upd_same
      refine r_ixLI (i := 1) (sqL_of (h2 _)) rfl ?_
      repeat walk_at "rd"
      refine r_divI ⟨by decide, by decide⟩ ?_
      repeat walk_at "rd"
      refine r_modI (by omega) ?_
      repeat walk_at "rd"
      rw [Int.fmod_eq_emod_of_nonneg _ (by omega)]
      exact k _ _ (Int.emod_nonneg _ (by omega)) (Int.emod_lt_of_pos _ t0) (ExB.trans ExB.put ExB.put) ⟨x, u, z + 1, h2 _, x0, u0, u1, by omega, by omega⟩
abbrev s__law_pick : Stmt := top 18
theorem sc__law_pick : FnScope ["dice", "things"] ["dice", "things"] (defScope s__law_pick) := ⟨rfl, rfl, rfl, by decide +kernel, rfl, by decide +kernel, by decide +kernel⟩
def sp_pick (K : PySem.W.Frag) : Sp := fun vs H Q _ => ∃ (d a : Addr) (k : Sk) (xs : List V) (n : Nat), vs = [.ref d, .ref a] ∧ Dice n H d ∧ n < 1000000000000 ∧ a ≠ d ∧ k.at K H a xs ∧ 0 < xs.length ∧ xs.length < 1000000 ∧
  ∀ (i : Nat) v H', xs[i]? = some v → ExB d H H' → Dice (n + 1) H' d → Q v H'
theorem ok__law_pick (C : Cx0 K mg base) : Cal P w K mg base 2 "_law_pick" ["dice", "things"] (sp_pick K) := by
  have c__law_roll := ok__law_roll (P := P) (w := w) C
  refine C.cal 7 7 rfl rfl sc__law_pick (fun _ _ _ _ _ _ us hl => match us, hl with | [_, _], _ => rfl) (fun vs H Q E h => ?_) (fun f cdv A outer s H vs Q E hr h => ⟨_, PSs.nox
    (pss_one (ps_ret (pe_ix (k_ix (K := K) rfl) (pv 1) (pe_f c__law_roll hr (by first | decide | omega) passL (pa_cons (pv 0) (pa_cons (pe_bi (k_len (K := K) rfl) (C.free 23) (by decide +kernel) (pa_cons (pv 1) pa_nil)) pa_nil))) (fun _ _ => rfl)))), ?_⟩)
  · obtain ⟨d, a, k, xs, n, rfl, _⟩ := h
    rfl
  · obtain ⟨d, a, k, xs, n, rfl, hd, hn, ne, ha, l0, l1, q⟩ := h
    repeat walk_at "rd"
    refine r_lenS ha ?_
    repeat walk_at "rd"
    refine ⟨d, _, n, rfl, hd, hn, by omega, by omega, fun r H' r0 r1 e h' => ?_⟩
    obtain ⟨i, rfl⟩ := Int.eq_ofNat_of_zero_le r0
    have hi : i < xs.length := by omega
    exact r_ixS (k.exb e ne ha) (List.getElem?_eq_getElem hi) (q i _ H' (List.getElem?_eq_getElem hi) e h')
abbrev s__law_dice : Stmt := top 16
theorem sc__law_dice : FnScope ["script", "spot", "own", "mixed", "cell"] ["script", "spot"] (defScope s__law_dice) := ⟨rfl, rfl, rfl, by decide +kernel, rfl, by decide +kernel, by decide +kernel⟩
def sp_dice (K : PySem.W.Frag) : Sp := fun vs H Q _ => ∃ (a : Addr) (ns : List Int) (spot : Int), vs = [.ref a, .int spot] ∧ SqL K H a (ns.map V.int) ∧ 0 ≤ spot ∧ spot < 1000 ∧ ns.length ≤ 1000 ∧ ∀ p H', Ex H H' → H p = none → Dice 0 H' p → Q (.ref p) H'
theorem ok__law_dice (C : Cx0 K mg base) : Cal P w K mg base 1 "_law_dice" ["script", "spot"] (sp_dice K) := by
  refine C.cal 5 5 rfl rfl sc__law_dice (fun _ _ _ _ _ _ us hl => match us, hl with | [_, _], _ => rfl) (fun vs H Q E h => ?_) (fun f cdv A outer s H vs Q E hr h => ⟨_, PSs.nox
    (pss_cons (ps_set (i := 2) sc__law_dice.nd rfl (Or.inl rfl) (pe_ifExp (pt_cmpR (k_lt (K := K) rfl hr) (pv 1) (pe_bi (k_len (K := K) rfl) (C.free 23) (by decide +kernel) (pa_cons (pv 0) pa_nil)) (nomark _)) (pe_ix (k_ix (K := K) rfl) (pv 0) (pv 1) (fun _ _ => rfl)) (pe_op (k_add (K := K) rfl) (pe_op (k_mul (K := K) rfl) pe_int (pv 1)) pe_int)))
      (pss_cons (ps_set (i := 3) sc__law_dice.nd rfl (Or.inl rfl) (pe_op (k_add (K := K) rfl) pe_int (pe_op (k_mul (K := K) rfl) pe_int (pv 1))))
      (pss_cons (ps_for PassesOwn.never rfl (k_seq (K := K) rfl (pe_op (k_add (K := K) rfl) (pe_slice (k_sl (K := K) rfl) (pv 0) po_none (po_some pe_int)) (pe_lst (pa_cons (pv 2) pa_nil)))) (pg_name (i := 4) sc__law_dice.nd rfl (Or.inl rfl))
      (pss_one (ps_set (i := 3) sc__law_dice.nd rfl (Or.inl rfl) (pe_op op_modN (pe_bt cr_int1 (C.free 20) (by decide +kernel) (pa_cons (pe_op (k_add (K := K) rfl) (pe_op (k_mul (K := K) rfl) (pv 3) pe_int) (pe_op op_modN (pe_bt cr_int1 (C.free 20) (by decide +kernel) (pa_cons (pv 4) pa_nil)) pe_int)) pa_nil)) pe_int))))
      (pss_one (ps_ret (pe_lst (pa_cons (pe_ifExp (PW.pt (pw_or (pt_cmpR (k_lt (K := K) rfl hr) (pv 2) pe_int (nomark _)) (pw_or1 (pt_cmpR (k_ge (K := K) rfl hr) (pv 2) (pe_op op_pow pe_int pe_int) (nomark _))))) (pe_bi cr_abs (C.free 25) (by decide +kernel) (pa_cons (pv 2) pa_nil)) pe_int) (pa_cons (pv 3) (pa_cons pe_int pa_nil))))))))), ?_⟩)
  · obtain ⟨a, ns, spot, rfl, _⟩ := h
    rfl
  · obtain ⟨a, ns, spot, rfl, ha, s0, s1, nl, k⟩ := h
    obtain ⟨sp, rfl⟩ := Int.eq_ofNat_of_zero_le s0
    repeat walk_at "rd"
    refine r_lenLI ha ?_
    repeat walk_at "rd"
    refine r_split (fun own => ?_) (fun c main => ?_) (fun c main => ?_)
    · repeat walk_at "rd"
      refine r_mulI (.inl (by omega)) ?_
      repeat walk_at "rd"
      refine r_slL ha fun p hp => ?_
      repeat walk_at "rd"
      obtain ⟨m, n, ec⟩ := cut_map (ns := ns) none (some 6)
      rw [ec]
      refine ⟨(show 1 ≤ sizeLine by decide), fun q hq => ?_⟩
      have hp1 : upd (upd H p (.lst (((ns.drop m).take n).map V.int))) q (.lst [.int own]) p = some (.lst (((ns.drop m).take n).map V.int)) := at_up hq upd_same
      refine r_catL (xs := ((ns.drop m).take n).map V.int) (ys := [.int own]) hp1 upd_same ?_ fun r hr2 => ?_
      · rw [List.length_map, List.length_take, List.length_drop, List.length_singleton]
        have : 1001 ≤ sizeLine := by decide
        omega
      have er : Ex H (upd (upd (upd H p (.lst (((ns.drop m).take n).map V.int))) q (.lst [.int own])) r (.lst (((ns.drop m).take n).map V.int ++ [.int own]))) := ((Ex.new hp).trans (Ex.new hq)).trans (Ex.new hr2)
      refine f_seq (k := .l) sqL_new (fun i σ H' => ∃ mixed : Int, ∃ x4, σ = [some (.ref a), some (.int (sp : Nat)), some (.int own), some (.int mixed), x4] ∧ 0 ≤ mixed ∧ mixed < 2147480009 ∧ Ex _ H') ⟨_, _, rfl, by omega, by omega, Ex.refl _⟩ (fun i σ H' _ p => sqL_ex p.choose_spec.choose_spec.2.2.2 sqL_new) ?_ ?_
      · rintro i x σ H' hx ⟨mixed, x4, rfl, m0, m1, e⟩
        have hint : ∃ j, x = .int j := by
          have := List.mem_of_getElem? hx
          rw [List.mem_append, List.mem_singleton, List.mem_map] at this
          rcases this with ⟨j, _, rfl⟩ | rfl
          · exact ⟨j, rfl⟩
          · exact ⟨_, rfl⟩
        obtain ⟨j, rfl⟩ := hint
        repeat walk_at "rd"
        refine r_mulI (.inr (by omega)) ?_
        repeat walk_at "rd"
        refine r_modI (by decide) ?_
        repeat walk_at "rd"
        refine r_modI (by decide) ?_
        repeat walk_at "rd"
        exact ⟨_, _, rfl, by rw [Int.fmod_eq_emod_of_nonneg _ (by decide)]; exact Int.emod_nonneg _ (by decide), by rw [Int.fmod_eq_emod_of_nonneg _ (by decide)]; exact Int.emod_lt_of_pos _ (by decide), e⟩
      · rintro σ H' ⟨mixed, x4, rfl, m0, m1, e⟩
        have fin : ∀ x : Int, 0 ≤ x → (3 ≤ sizeLine ∧ ∀ p, H' p = none → Q (.ref p) (upd H' p (.lst [.int x, .int mixed, .int 0]))) := fun x hx => ⟨(show 3 ≤ sizeLine by decide), fun p hp =>
          k p _ ((er.trans e).add hp) ((er.trans e).free hp) ⟨x, mixed, 0, upd_same, hx, m0, m1, by decide, by decide⟩⟩
        repeat walk_at "rd"
        by_cases c : own < 0
        · refine r_T (decide_eq_true c) ?_
          repeat walk_at "rd"
          refine r_abs ?_
          repeat walk_at "rd"
          exact fin _ (by split <;> omega)
        · refine r_F (decide_eq_false c) ?_
          repeat walk_at "rd"
          refine r_powI ⟨by decide, by decide, by decide⟩ ?_
          repeat walk_at "rd"
          refine r_D (fun c2 => ?_) (fun c2 => ?_)
          · repeat walk_at "rd"
            refine r_abs ?_
            repeat walk_at "rd"
            exact fin _ (by split <;> omega)
          · repeat walk_at "rd"
            exact fin 0 (by omega)
    · repeat walk_at "rd"
      have hs : ns[sp]? = some ns[sp] := List.getElem?_eq_getElem (by omega)
      exact r_ixLI ha hs (main ns[sp])
    · repeat walk_at "rd"
      refine r_mulI (.inl (by omega)) (r_addI ?_)
      exact main _

abbrev s__law_marks_right : Stmt := top 21
theorem sc__law_marks_right : FnScope ["mirror", "rows", "copied", "step", "marks", "pairs", "many", "mark", "below", "place", "first"] ["mirror", "rows", "copied", "step", "marks"] (defScope s__law_marks_right) := ⟨rfl, rfl, rfl, by decide +kernel, rfl, by decide +kernel, by decide +kernel⟩
def sp_marks (K : PySem.W.Frag) : Sp := fun vs H Q _ => ∃ a p r mk cp st rs, ∃ ns : List Int, vs = [.ref a, .ref r, .int ((cp : Nat) : Int), .int ((st : Nat) : Int), .ref mk] ∧ Mir K H a p st cp rs ∧ SqL K H r (rs.map V.int) ∧ SqL K H mk (ns.map V.int) ∧ rs.Pairwise (· < ·) ∧ cp ≤ rs.length ∧ rs.length ≤ 600 ∧ 1 ≤ st ∧ st ≤ 100 ∧
  ns.length ≤ 100000 ∧ (∀ n ∈ ns, 0 ≤ n ∧ n ≤ 1000001) ∧ ∀ H', Ex H H' → Q (.bl true) H'
theorem ok__law_marks_right (C : Cx0 K mg base) (o_BadArgument : OBad P w K mg base) : Cal P w K mg base 5 "_law_marks_right" ["mirror", "rows", "copied", "step", "marks"] (sp_marks K) := by
  have p_rows := ok_rows (P := P) (w := w) C
  have p_pairs := ok_pairs (P := P) (w := w) C
  have m_led := (ok_led (P := P) (w := w) C o_BadArgument).1
  have mk_led := (ok_led (P := P) (w := w) C o_BadArgument).2
  have m_reread := (ok_reread (P := P) (w := w) C o_BadArgument).1
  have mk_reread := (ok_reread (P := P) (w := w) C o_BadArgument).2
  have cM := clM C
  have nA := noat C
  refine C.cal 10 10 rfl rfl sc__law_marks_right (fun _ _ _ _ _ _ us hl => match us, hl with | [_, _, _, _, _], _ => rfl) (fun vs H Q E h => ?_) (fun f cdv A outer s H vs Q E hr h => ⟨_, PSs.nox
    (pss_cons (ps_setLc (i := 5) (own := [("many", 6)]) rfl sc__law_marks_right.nd rfl rfl (sw_true rfl rfl rfl (by decide +kernel)) (pi_range2 rfl (C.free 17) (pa_cons pe_int (pa_cons (pe_op (k_add (K := K) rfl) (pv 2) pe_int) pa_nil))) (blkOk_by (N := ["mirror", "rows", "copied", "step", "marks", "pairs", "many", "mark", "below", "place", "first"]) (sc := defScope s__law_marks_right) (by decide +kernel)) (fun _ _ _ _ _ => (pg_name (i := 6) sc__law_marks_right.nd rfl (Or.inl rfl))) (fun _ _ _ _ _ => pts_one (pt_cmpR (k_eq (K := K) rfl hr) (pe_op op_modN (pe_bt cr_int1 (C.free 20) (by decide +kernel) (pa_cons (pv 6) pa_nil)) (pv 3)) pe_int (nomark _))) (fun _ _ _ _ _ => (pe_tup (pa_cons (pe_op (k_add (K := K) rfl) (pe_ix (k_ix (K := K) rfl) (pv 1) (pe_op op_sub (pv 6) pe_int) (fun _ _ => rfl)) pe_int) (pa_cons (pv 6) pa_nil)))))
      (pss_cons (ps_if (PW.pt (pw_or (pt_cmpR (k_ne (K := K) rfl hr) (pe_pr p_pairs hr (by first | decide | omega) passP (pv 0)) (pe_bt (k_tuple (K := K) rfl) (C.free 21) (by decide +kernel) (pa_cons (pv 5) pa_nil)) (nomark _)) (pw_or (pt_cmpR (k_ne (K := K) rfl hr) (pe_pr p_rows hr (by first | decide | omega) passP (pv 0)) (pe_bt (k_tuple (K := K) rfl) (C.free 21) (by decide +kernel) (pa_cons (pv 1) pa_nil)) (nomark _)) (pw_or (pt_cmpR (k_ne (K := K) rfl hr) (k_fld (K := K) rfl (pv 0)) (pv 2) (nomark _)) (pw_or1 (pt_cmpR (k_ne (K := K) rfl hr) (k_fld (K := K) rfl (pv 0)) (pv 3) (nomark _))))))) (pss_one (ps_ret pe_bl)) pss_nil)
      (pss_cons (ps_for PassesOwn.never rfl (k_seq (K := K) rfl (pv 4)) (pg_name (i := 7) sc__law_marks_right.nd rfl (Or.inr rfl))
      (pss_cons (ps_set (i := 8) sc__law_marks_right.nd rfl (Or.inl rfl) (pe_bi (k_len (K := K) rfl) (C.free 23) (by decide +kernel) (pa_cons (pe_lc (own := [("place", 9)]) rfl sc__law_marks_right.nd (k_seq (K := K) rfl (pe_slice (k_sl (K := K) rfl) (pv 1) po_none (po_some (pv 2)))) (blkOk_by (N := ["mirror", "rows", "copied", "step", "marks", "pairs", "many", "mark", "below", "place", "first"]) (sc := defScope s__law_marks_right) (by decide +kernel)) (fun _ _ _ _ _ => (pg_name (i := 9) sc__law_marks_right.nd rfl (Or.inl rfl))) (fun _ _ _ _ _ => pts_one (pt_cmpR (k_lt (K := K) rfl hr) (pv 9) (pv 7) (nomark _))) (fun _ _ _ _ _ => (pv 9))) pa_nil)))
      (pss_cons (ps_set (i := 9) sc__law_marks_right.nd rfl (Or.inl rfl) (pe_bi (k_maxL (K := K) rfl rfl) (C.free 18) (by decide +kernel) (pa_cons (pe_op (k_add (K := K) rfl) (pe_lst (pa_cons pe_int pa_nil)) (pe_lc (own := [("first", 10), ("many", 6)]) rfl sc__law_marks_right.nd (k_seq (K := K) rfl (pv 5)) (blkOk_by (N := ["mirror", "rows", "copied", "step", "marks", "pairs", "many", "mark", "below", "place", "first"]) (sc := defScope s__law_marks_right) (by decide +kernel)) (fun _ _ _ _ _ => (k_two (K := K) (i := 10) (j := 6) rfl sc__law_marks_right.nd rfl rfl (Or.inl rfl) (Or.inl rfl) (Or.inr rfl) (Or.inr rfl) rfl)) (fun _ _ _ _ _ => pts_one (pt_cmpR (k_le (K := K) rfl hr) (pv 10) (pv 7) (nomark _))) (fun _ _ _ _ _ => (pv 6)))) pa_nil)))
      (pss_cons (ps_if (PW.pt (pw_or (pt_cmpR (k_ne (K := K) rfl hr) (pe_me m_led hr (by first | decide | omega) passL (pv 0) (pa_cons (pv 7) pa_nil)) (pv 9) (nomark _)) (pw_or (pt_cmpR (k_ne (K := K) rfl hr) (pe_meK mk_led hr (by first | decide | omega) passL (pv 0) (pk_cons (pv 7) pk_nil)) (pv 9) (nomark _)) (pw_or1 (pt_cmpR (k_gt (K := K) rfl hr) (pv 9) (pv 8) (nomark _)))))) (pss_one (ps_ret pe_bl)) pss_nil)
      (pss_one (ps_if (PW.pt (pw_or (pt_cmpR (k_ne (K := K) rfl hr) (pe_me m_reread hr (by first | decide | omega) passL (pv 0) (pa_cons (pv 7) pa_nil)) (pe_op op_sub (pv 8) (pv 9)) (nomark _)) (pw_or (pt_cmpR (k_ne (K := K) rfl hr) (pe_meK mk_reread hr (by first | decide | omega) passL (pv 0) (pk_cons (pv 7) pk_nil)) (pe_op op_sub (pv 8) (pv 9)) (nomark _)) (pw_or1 (pt_cmpR (k_gt (K := K) rfl hr) (pe_op op_sub (pv 8) (pv 9)) (pe_op op_sub (pv 3) pe_int) (nomark _)))))) (pss_one (ps_ret pe_bl)) pss_nil))))))
      (pss_one (ps_ret pe_bl))))), ?_⟩)
  · obtain ⟨a, p, r, mk, cp, st, rs, ns, rfl, _⟩ := h
    rfl
  · obtain ⟨a, p, r, mk, cp, st, rs, ns, rfl, m, hr', hmk, asc, lc, l6, s1, s2, ln, hns, k⟩ := h
    repeat walk_at "rd"
    refine n_2 (by omega) ?_
    rw [show ((cp : Int) + 1 - 1).toNat = cp by omega]
    refine c_wR (K := K) walk_range (fun i => (lawF rs st i).map rw2) (by omega) (fun _ => rfl) ?_ ?_
    · intro i H1 q N hi e1 hq hN
      have hx : rs[i]? = some rs[i] := List.getElem?_eq_getElem (by omega)
      have ev : (1 : Int) + (i : Nat) = ((i + 1 : Nat) : Int) := by omega
      repeat walk_at "rd"
      refine r_modI (by omega) ?_
      repeat walk_at "rd"
      rw [Int.fmod_eq_emod_of_nonneg _ (by omega), ev, ← Int.natCast_emod]
      refine r_D (fun c => ?_) (fun c => ?_)
      · have el : lawF rs st i = some (rs[i] + 1, ((i + 1 : Nat) : Int)) := by
          unfold lawF
          rw [if_pos (by omega), hx]; rfl
        repeat walk_at "rd"
        rw [show ((i + 1 : Nat) : Int) - 1 = (i : Nat) by omega]
        refine r_ixLI (sqL_ex e1 hr') hx ?_
        repeat walk_at "rd"
        refine ⟨(show 2 ≤ sizeLine by decide), fun t ht => ?_⟩
        exact hq _ [rs[i] + 1, ((i + 1 : Nat) : Int)] _ (by rw [el]; rfl) (Ex.new ht) ⟨t, rfl, sqT_new⟩
      · exact hN (by unfold lawF; rw [if_neg (by omega)]; rfl) _ (Ex.refl _)
    · intro L H1 us hL e1 hl ll rw'
      have rw' : Rws K H1 us ((lawP rs st cp).map rw2) := by
        unfold lawP
        rw [List.map_filterMap]
        exact rw'
      have m1 := m.ex e1
      have g1 : SqL K H1 L us := sqL_of hl
      have r1 := sqL_ex e1 hr'
      have mk1 := sqL_ex e1 hmk
      repeat walk_at "rd"
      refine at_p m1 ?_
      refine ⟨a, p, st, cp, rs, rfl, m1, s1, s2, lc, l6, fun q H2 vs2 hq e2 hq2 rq => ?_⟩
      repeat walk_at "rd"
      refine r_tupL (sqL_ex e2 g1) fun t ht => ?_
      refine r_neTR (sqT_up ht hq2) sqT_new (rq.ex (Ex.new ht)) ((pairs_eq s1 (rs := rs) cp ▸ rw').ex (e2.trans (Ex.new ht))) ?_
      have e2 := e2.trans (Ex.new (o := .tup us) ht)
      generalize upd H2 t (.tup us) = H3 at e2
      repeat walk_at "rd"
      refine at_p (m1.ex e2) ?_
      refine ⟨a, p, st, cp, rs, rfl, m1.ex e2, fun q4 H4 hq4 e4 h4 => ?_⟩
      repeat walk_at "rd"
      refine r_tupL (sqL_ex (e2.trans e4) r1) fun t5 ht5 => ?_
      refine r_neTT (sqT_up ht5 h4) sqT_new ?_
      rw [decide_eq_true rfl]
      have e5 := (e2.trans e4).trans (Ex.new (o := .tup (rs.map V.int)) ht5)
      generalize upd H4 t5 (.tup (rs.map V.int)) = H5 at e5
      have m5 := m1.ex e5
      repeat walk_at "rd"
      refine fl_cop C m5 ?_
      repeat walk_at "rd"
      rw [decide_eq_true rfl]
      repeat walk_at "rd"
      refine fl_step C m5 ?_
      repeat walk_at "rd"
      rw [decide_eq_true rfl]
      repeat walk_at "rd"
      refine f_seq (k := .l) (sqL_ex e5 mk1) (fun _ σ H' => (∃ x6 x7 x8 x9 x10, σ = [some (.ref a), some (.ref r), some (.int (cp : Nat)), some (.int (st : Nat)), some (.ref mk), some (.ref L), x6, x7, x8, x9, x10]) ∧ Ex H1 H') ⟨⟨_, _, _, _, _, rfl⟩, e5⟩ (fun i σ H' _ p => sqL_ex p.2 mk1) ?_ ?_
      · rintro i x σ H6 hx ⟨⟨x6, x7, x8, x9, x10, rfl⟩, e6⟩
        rw [List.getElem?_map, Option.map_eq_some_iff] at hx
        obtain ⟨n, hn, rfl⟩ := hx
        obtain ⟨n0, n1⟩ := hns n (List.mem_of_getElem? hn)
        repeat walk_at "rd"
        refine r_slL (sqL_ex e6 r1) fun t7 ht7 => ?_
        rw [cut_lo, ← List.map_take]
        refine c_fltI (k := .l) (p := fun x => decide (x < n)) (f := fun x => x) sqL_new (by rw [List.length_take]; omega) (fun _ => rfl) ?_ ?_
        · intro x H1 q N hx e1 hq hN
          repeat walk_at "rd"
          refine r_D (fun c => ?_) (fun c => ?_)
          · repeat walk_at "rd"
            exact hq _ (decide_eq_true c) (Ex.refl _)
          · repeat walk_at "rd"
            exact hN _ (decide_eq_false c) (Ex.refl _)
        intro L8 H8 hL8 e8 hl8
        repeat walk_at "rd"
        refine r_lenL (sqL_of hl8) ?_
        rw [List.length_map, List.length_map]
        show tSeq _ _ _ (List.set _ _ (some (V.int ((cnt rs cp n : Nat) : Int)))) _
        have e8 := (e6.trans (Ex.new ht7)).trans e8
        clear hl8 hL8 ht7
        repeat walk_at "rd"
        refine ⟨(show 1 ≤ sizeLine by decide), fun t9 ht9 => ?_⟩
        have e9 := e8.trans (Ex.new (o := .lst [.int 0]) ht9)
        repeat walk_at "rd"
        refine c_rw2 (k := .l) (ps := lawP rs st cp) (sqL_ex e9 g1) (rw'.ex e9) (fun z => decide (z.1 ≤ n)) Prod.snd (by omega) (fun _ _ => rfl) ?_ ?_
        · intro z H1 q N hx e1 hq hN
          repeat walk_at "rd"
          refine r_D (fun c => ?_) (fun c => ?_)
          · repeat walk_at "rd"
            exact hq _ (decide_eq_true c) (Ex.refl _)
          · repeat walk_at "rd"
            exact hN _ (decide_eq_false c) (Ex.refl _)
        intro L10 H10 hL10 e10 hl10
        have lm : (lawP rs st cp).length ≤ cp := by
          unfold lawP
          exact Nat.le_trans (List.length_filterMap_le _ _) (by rw [List.length_range]; exact Nat.le_refl _)
        refine r_catL (at_ex e10 upd_same) hl10 (by
          rw [List.length_map, List.length_map, List.length_singleton]
          have := List.length_filter_le (fun z : Int × Int => decide (z.1 ≤ n)) (lawP rs st cp)
          have : 1000 ≤ sizeLine := by decide
          omega) fun t11 ht11 => ?_
        have e11 := (e9.trans e10).trans (Ex.new (o := .lst ([.int 0] ++ ((((lawP rs st cp).filter fun z => decide (z.1 ≤ n)).map Prod.snd).map V.int))) ht11)
        repeat walk_at "rd"
        refine r_maxL (ns := lawM rs st cp n) sqL_new (Nat.succ_pos _) fun y hy1 hy2 => ?_
        have ey := place_eq asc s1 lc hy1 hy2
        subst ey
        clear hy1 hy2
        generalize hb : cnt rs cp n = b
        have bl : b % st < st := Nat.mod_lt _ (by omega)
        have bb : b % st ≤ b := Nat.mod_le _ _
        generalize upd H10 t11 (.lst ([.int 0] ++ ((((lawP rs st cp).filter fun z => decide (z.1 ≤ n)).map Prod.snd).map V.int))) = H11 at e11
        repeat walk_at "rd"
        refine at_m (m1.ex e11) rfl ?_
        repeat walk_at "rd"
        refine ⟨a, p, st, cp, rs, .int n, "int", rfl, m1.ex e11, l6, s1, .int n, (fun e => by rw [inB_yes n0 n1] at e; cases e), fun n' en _ _ H12 e12 => ?_⟩
        cases en
        rw [hb]
        have e12 := e11.trans e12
        repeat walk_at "rd"
        rw [decide_eq_true rfl]
        repeat walk_at "rd"
        refine at_m (m1.ex e12) rfl ?_
        repeat walk_at "rd"
        refine ⟨rfl, a, p, st, cp, rs, .int n, "int", rfl, m1.ex e12, l6, s1, .int n, (fun e => by rw [inB_yes n0 n1] at e; cases e), fun n' en _ _ H13 e13 => ?_⟩
        cases en
        rw [hb]
        have e13 := e12.trans e13
        repeat walk_at "rd"
        rw [decide_eq_true rfl]
        repeat walk_at "rd"
        rw [decide_eq_false (by omega)]
        repeat walk_at "rd"
        refine at_m (m1.ex e13) rfl ?_
        repeat walk_at "rd"
        refine ⟨a, p, st, cp, rs, .int n, "int", rfl, m1.ex e13, l6, s1, .int n, (fun e => by rw [inB_yes n0 n1] at e; cases e), fun n' en _ _ H14 e14 => ?_⟩
        cases en
        rw [hb]
        have e14 := e13.trans e14
        repeat walk_at "rd"
        rw [show (b : Int) - ((b - b % st : Nat) : Int) = ((b % st : Nat) : Int) by omega, decide_eq_true rfl]
        repeat walk_at "rd"
        refine at_m (m1.ex e14) rfl ?_
        repeat walk_at "rd"
        refine ⟨rfl, a, p, st, cp, rs, .int n, "int", rfl, m1.ex e14, l6, s1, .int n, (fun e => by rw [inB_yes n0 n1] at e; cases e), fun n' en _ _ H15 e15 => ?_⟩
        cases en
        rw [hb]
        have e15 := e14.trans e15
        repeat walk_at "rd"
        rw [show (b : Int) - ((b - b % st : Nat) : Int) = ((b % st : Nat) : Int) by omega, decide_eq_true rfl]
        repeat walk_at "rd"
        rw [decide_eq_false (by omega)]
        repeat walk_at "rd"
        exact ⟨⟨_, _, _, _, _, rfl⟩, e15⟩
      · rintro σ H' ⟨⟨x6, x7, x8, x9, x10, rfl⟩, e⟩
        repeat walk_at "rd"
        exact k _ (e1.trans e)
end
end K83

local macro_rules | `(tactic| walk_at "sel") => `(tactic| first
  | with_reducible exact Sel.head
  | (with_reducible apply Sel.tail; walk_at "sel"))
local macro_rules | `(tactic| walk_at "le") => `(tactic| first
  | with_reducible assumption
  | with_reducible exact Le.refl _
  | (with_reducible refine Le.trans ?_ (by with_reducible assumption); walk_at "le"))
local macro_rules | `(tactic| walk_at "tu") => `(tactic| first
  | with_reducible assumption
  | (with_reducible apply Tu.le; with_reducible assumption; walk_at "le"))
local macro_rules | `(tactic| walk_at "pd") => `(tactic| first
  | with_reducible assumption
  | with_reducible exact Pd.int _
  | with_reducible exact Pd.str _
  | with_reducible exact Pd.bl _
  | with_reducible exact Pd.non
  | (with_reducible apply Pd.le; with_reducible assumption; walk_at "le")
  | (with_reducible apply Pd.tup; walk_at "tu"; walk_at "pda"))
local macro_rules | `(tactic| walk_at "pda") => `(tactic| first
  | with_reducible assumption
  | with_reducible exact PdA.nil
  | (with_reducible apply PdA.cons; walk_at "pd"; walk_at "pda")
  | (with_reducible apply PdA.le; with_reducible assumption; walk_at "le")
  | with_reducible exact pd_ints _)
local macro_rules | `(tactic| walk_at "pk") => `(tactic| first
  | with_reducible exact Pk.id
  | with_reducible exact Pk.nil
  | (with_reducible apply Pk.cons; walk_at "sel"; walk_at "pk")
  | (with_reducible apply Pk.drop; walk_at "pk"))
local macro_rules | `(tactic| walk_at "wd") => `(tactic| first
  | with_reducible assumption
  | (with_reducible apply Wd.pk; with_reducible assumption; walk_at "pk"))
local macro_rules | `(tactic| walk_at "dp") => `(tactic| first
  | with_reducible assumption
  | (with_reducible apply Pd.dp; walk_at "pd")
  | (with_reducible apply Dp.lst; with_reducible apply Wd.sqL; with_reducible assumption; walk_at "sel"; with_reducible apply PdA.dp; walk_at "pda"))
local macro_rules | `(tactic| walk_at "ati") => `(tactic| first
  | with_reducible exact at_0
  | with_reducible exact at_1
  | with_reducible exact at_2
  | with_reducible exact at_3)
local macro_rules | `(tactic| walk_at "ws") => `(tactic| (with_reducible assumption; walk_at "sel"))
local macro_rules | `(tactic| walk_at "st") => `(tactic| first
  | (with_reducible apply n_tup; with_reducible assumption; (with_unfolding_all rfl); intro _ _ _ _ _)
  | (with_reducible apply n_lst; with_reducible assumption; (with_unfolding_all rfl); intro _ _ _ _)
  | (with_reducible apply n_fld; walk_at "ws"; with_reducible assumption; with_reducible assumption; (with_unfolding_all rfl))
  | (with_reducible apply n_sfld; walk_at "ws"; with_reducible assumption; with_reducible assumption; (with_unfolding_all rfl); intro _ _ _)
  | (with_reducible apply n_meth; walk_at "ws"; (with_unfolding_all rfl))
  | (with_reducible apply n_prop; walk_at "ws")
  | (with_reducible apply n_ixT; walk_at "tu"; walk_at "ati")
  | (with_reducible apply n_ixL; walk_at "ws"; walk_at "ati")
  | (with_reducible apply n_lenT; walk_at "tu")
  | (with_reducible apply n_lenI; walk_at "ws")
  | (with_reducible apply n_lenL; walk_at "ws")
  | (with_reducible apply n_tupL; walk_at "ws"; intro _ _ _ _ _)
  | (with_reducible apply n_tupT; walk_at "tu")
  | (with_reducible apply n_listL; walk_at "ws"; intro _ _ _ _)
  | (with_reducible apply n_listT; with_reducible assumption; walk_at "tu"; intro _ _ _ _)
  | (with_reducible apply n_slL; walk_at "ws"; intro _ _ _ _)
  | (with_reducible apply r_mulI; (with_unfolding_all first | exact Or.inl (by omega) | exact Or.inr (by omega)))
  | (with_reducible apply r_modI; omega)
  | with_reducible refine r_int1B ?_
  | with_reducible refine n_eqB ?_
  | (with_reducible apply r_gtup; with_reducible apply Tu.sq; walk_at "tu"; (with_unfolding_all rfl))
  | with_reducible refine r_gcons ?_
  | with_reducible refine r_gnil ?_
  | (with_reducible apply n_tyL; walk_at "ws")
  | (with_reducible apply n_kw; (with_unfolding_all rfl))
  | (with_reducible apply n_makeK; with_reducible assumption; intro _ _ _ _)
  | (with_reducible apply n_make; with_reducible assumption; intro _ _ _ _))
local macro_rules | `(tactic| walk_at "go") => `(tactic| first
  | with_reducible refine r_tupN ?_
  | with_reducible refine r_lstN ?_
  | with_reducible refine r_makeN ?_
  | with_reducible refine r_makeKN ?_
  | with_reducible refine r_sfldN ?_
  | walk_at "rd"
  | walk_at "st")

namespace K83
section
variable {P : Program} {w : World} {K : PySem.W.Frag} {mg : Str → Option Value} {base : Heap} {T : List (Addr × Str)} {H : Hp} {L F R : List En} {E : XK} {Q : VK}
abbrev cNot0 (K : PySem.W.Frag) : Addr := clsA K "NotPossible"
abbrev cBad0 (K : PySem.W.Frag) : Addr := clsA K "BadArgument"
theorem k_roll {d : Addr} {t : Int} {n : Nat} (w : Wd T H L) (s : Sel (d, isDice n) L F) (hn : n < 1000000000000) (t0 : 0 < t) (t1 : t < 1073741824) (q : ∀ (r : Nat) H', (r : Int) < t → Le H H' → Wd T H' ((d, isDice (n + 1)) :: F) → Q (.int r) H') : sp_roll [.ref d, .int t] H Q E :=
  ⟨d, t, n, rfl, w.dice s, hn, t0, t1, fun r H' r0 r1 e h => by
    obtain ⟨r, rfl⟩ := Int.eq_ofNat_of_zero_le r0
    exact q r H' r1 (Le.eo1 (w.sel s) (EO.b e List.mem_cons_self)) ((w.sel s).eb1 (EB.xb e List.mem_cons_self) (isDice.of h))⟩
theorem k_pickL {d a : Addr} {xs : List V} {n : Nat} (w : Wd T H L) (s : Sel (d, isDice n) L F) (s2 : Sel (a, isL xs) F R) (hn : n < 1000000000000) (l0 : 0 < xs.length) (l1 : xs.length < 1000000) (q : ∀ v H', v ∈ xs → Le H H' → Wd T H' ((d, isDice (n + 1)) :: F) → Q v H') : sp_pick K [.ref d, .ref a] H Q E := by
  have w1 := (w.sel s)
  have ne : a ≠ d := fun z => by
    have w2 := w1.perm (List.Perm.cons _ s2.pm)
    exact w2.ne z.symm
  exact ⟨d, a, .l, xs, n, rfl, w.dice s, hn, ne, (w1.tail).sqL s2, l0, l1, fun i v H' hv e h => q v H' (List.mem_of_getElem? hv) (Le.eo1 w1 (EO.b e List.mem_cons_self)) (w1.eb1 (EB.xb e List.mem_cons_self) (isDice.of h))⟩
/-- a mirror in the row of what may change -/
abbrev fMir (K : PySem.W.Frag) (a p : Addr) (st cp : Nat) (rs : List Int) (F : List En) : List En := (a, isI (CM K) (flds st cp p)) :: (p, isL (rs.map V.int)) :: F
theorem mir_of {a p : Addr} {st cp : Nat} {rs : List Int} (w : Wd T H (fMir K a p st cp rs F)) : Mir K H a p st cp rs := ⟨w.ins .head, w.lst (.tail .head)⟩
theorem of_mir {a p : Addr} {st cp : Nat} {rs : List Int} (h : Mir K H a p st cp rs) : (∃ o, H a = some o ∧ isI (CM K) (flds st cp p) o ∧ mutO o = true) ∧ ∃ o, H p = some o ∧ isL (rs.map V.int) o ∧ mutO o = true := by
  obtain ⟨⟨dx, h1⟩, h2⟩ := h
  exact ⟨⟨_, h1, ⟨dx, rfl⟩, rfl⟩, _, h2, rfl, rfl⟩
theorem k_init {x : Addr} {v : V} {Ty : String} (w : Wd T H ((x, isI (CM K) []) :: L)) (ty : IsTy K H v Ty) (k1 : inB 1 100 v = false → Refuse T L (cBad0 K) "name" "step" H E)
    (q : ∀ st : Nat, v = .int st → 1 ≤ st → st ≤ 100 → ∀ p H', Le H H' → Wd T H' (fMir K x p st 0 [] L) → Q .non H') : sp_init K [.ref x, v] H Q E := by
  obtain ⟨dx, hx⟩ := w.ins .head
  refine ⟨x, dx, v, Ty, rfl, hx, ty, fun e => (k1 e).old w.tail, fun st e l1 l2 p H' hp eb m => ?_⟩
  obtain ⟨m1, m2⟩ := of_mir m
  have w1 := w.eb1 (EB.xb eb List.mem_cons_self) m1
  exact q st e l1 l2 p H' (Le.eo1 w (EO.b eb List.mem_cons_self)) (Wd.swap (w1.cons (by exact w.fresh hp) m2))
theorem k_mdo {a p : Addr} {st cp : Nat} {rs : List Int} {v : V} {d : PyData} (w : Wd T H (fMir K a p st cp rs F)) (lc : cp ≤ rs.length) (l6 : rs.length ≤ 600) (dp : Dp K H v d) (sh : SeqAt.shaped d = true) (k1 : stepD d = false → Refuse T (fMir K a p st cp rs F) (cBad0 K) "name" "step" H E)
    (k2 : d = .tuple [.str "copy"] → cp = rs.length → Refuse T (fMir K a p st cp rs F) (cNot0 K) "word" "copy" H E) (k3 : d = .tuple [.str "copy"] → cp < rs.length → ∀ H', Le H H' → Wd T H' (fMir K a p st (cp + 1) rs F) → Q .non H')
    (k4 : ∀ n : Int, d = .tuple [.str "row", .int n] → 0 ≤ n → n ≤ 1000000 → (600 ≤ rs.length ∨ ∃ l, rs[rs.length - 1]? = some l ∧ n ≤ l) → Refuse T (fMir K a p st cp rs F) (cNot0 K) "word" "row" H E)
    (k5 : ∀ n : Int, d = .tuple [.str "row", .int n] → 0 ≤ n → n ≤ 1000000 → rs.length < 600 → (∀ l, rs[rs.length - 1]? = some l → l < n) → ∀ H', Le H H' → Wd T H' (fMir K a p st cp (rs ++ [n]) F) → Q .non H') : sp_do K [.ref a, v] H Q E := by
  have up : ∀ {cp' : Nat} {rs' : List Int} {H' : Hp}, EB [a, p] H H' → Mir K H' a p st cp' rs' → Le H H' ∧ Wd T H' (fMir K a p st cp' rs' F) := fun e m => ⟨Le.eo2 w e.eo, w.eb2 e (of_mir m).1 (of_mir m).2⟩
  exact ⟨a, p, st, cp, rs, v, d, rfl, mir_of w, lc, l6, dp, sh, fun e => (k1 e).old w, fun e c => (k2 e c).old w, fun e c H' x m => k3 e c H' (up x m).1 (up x m).2, fun n e a b c => (k4 n e a b c).old w, fun n e a b c f H' x m => k5 n e a b c f H' (up x m).1 (up x m).2⟩
/-- a row that is copied ahead -/
theorem k_row {a p : Addr} {st cp : Nat} {rs : List Int} {v : V} {n : Int} (w : Wd T H (fMir K a p st cp rs F)) (lc : cp ≤ rs.length) (l6 : rs.length ≤ 600) (hv : Pd H v (.tuple [.str "row", .int n])) (n0 : 0 ≤ n) (n1 : n ≤ 1000000)
    (k4 : (600 ≤ rs.length ∨ ∃ l, rs[rs.length - 1]? = some l ∧ n ≤ l) → Refuse T (fMir K a p st cp rs F) (cNot0 K) "word" "row" H E)
    (k5 : rs.length < 600 → (∀ l, rs[rs.length - 1]? = some l → l < n) → ∀ H', Le H H' → Wd T H' (fMir K a p st cp (rs ++ [n]) F) → Q .non H') : sp_do K [.ref a, v] H Q E := by
  refine k_mdo w lc l6 hv.dp (sh_of (by simp [PyData.canLay0, PyData.canLayAll0]; decide +kernel) (by simp [PyData.depth, PyData.depthAll])) (fun e => ?_) (fun e => ?_) (fun e => ?_) (fun m e _ _ c => k4 ?_) (fun m e _ _ c f => ?_)
  · exfalso
    have : (decide (0 ≤ n) && decide (n ≤ 1000000)) = false := by
      rw [stepD_row (by decide)] at e
      exact e
    rw [decide_eq_true n0, decide_eq_true n1] at this
    cases this
  · cases e
  · cases e
  · cases e
    exact c
  · cases e
    exact k5 c f
theorem k_copy {a p : Addr} {st cp : Nat} {rs : List Int} {v : V} (w : Wd T H (fMir K a p st cp rs F)) (lc : cp ≤ rs.length) (l6 : rs.length ≤ 600) (hv : Pd H v (.tuple [.str "copy"]))
    (k2 : cp = rs.length → Refuse T (fMir K a p st cp rs F) (cNot0 K) "word" "copy" H E) (k3 : cp < rs.length → ∀ H', Le H H' → Wd T H' (fMir K a p st (cp + 1) rs F) → Q .non H') : sp_do K [.ref a, v] H Q E := by
  refine k_mdo w lc l6 hv.dp (sh_of (by simp [PyData.canLay0, PyData.canLayAll0]; decide +kernel) (by simp [PyData.depth, PyData.depthAll])) (fun e => ?_) (fun _ => k2) (fun _ => k3) (fun m e => ?_) (fun m e => ?_)
  · rw [stepD_copy rfl] at e
    cases e
  · cases e
  · cases e
theorem k_reread {a p : Addr} {st cp : Nat} {rs : List Int} {n : Int} (w : Wd T H (fMir K a p st cp rs F)) (l6 : rs.length ≤ 600) (s1 : 1 ≤ st) (n0 : 0 ≤ n) (n1 : n ≤ 1000001) (q : ∀ H', Le H H' → Wd T H' (fMir K a p st cp rs F) → Q (.int ((cnt rs cp n % st : Nat) : Int)) H') : sp_reread K [.ref a, .int n] H Q E :=
  ⟨a, p, st, cp, rs, .int n, "int", rfl, mir_of w, l6, s1, .int n, (fun e => by rw [inB_yes n0 n1] at e; cases e), fun m e _ _ H' x => by
    cases e
    exact q H' (Le.ex x) (w.ex x)⟩
/-- rows of the mirror that is met: 0, 3, 6 .. -/
def met (i : Nat) : List Int := (List.range i).map fun j : Nat => 3 * (j : Int)
theorem met_len (i : Nat) : (met i).length = i := by unfold met; rw [List.length_map, List.length_range]
theorem met_succ (i : Nat) : met (i + 1) = met i ++ [3 * (i : Int)] := by unfold met; rw [List.range_succ, List.map_append]; rfl
theorem met_last {i : Nat} {l : Int} (h : (met i)[(met i).length - 1]? = some l) : l < 3 * (i : Int) := by
  have h2 := (List.getElem?_eq_some_iff.mp h)
  obtain ⟨h2, h3⟩ := h2
  have h4 : l ∈ met i := h3 ▸ List.getElem_mem h2
  unfold met at h4
  obtain ⟨j, hj, rfl⟩ := List.mem_map.mp h4
  have := List.mem_range.mp hj
  omega
theorem met_cnt (i : Nat) (m : Int) (h : 3 * (i : Int) ≤ m + 2) : cnt (met i) i m = i := by
  unfold cnt
  rw [List.take_of_length_le (by rw [met_len]; omega), List.filter_eq_self.mpr, met_len]
  intro x hx
  obtain ⟨j, hj, rfl⟩ := List.mem_map.mp hx
  have := List.mem_range.mp hj
  exact decide_eq_true (show 3 * (j : Int) < m by omega)
abbrev s__law_met : Stmt := top 22
theorem sc__law_met : FnScope ["step", "mirror", "at"] ["step"] (defScope s__law_met) := ⟨rfl, rfl, rfl, by decide +kernel, rfl, by decide +kernel, by decide +kernel⟩
def sp_met (K : PySem.W.Frag) : Sp := fun vs H Q _ => ∃ (st : Nat) (T : List (Addr × Str)) (L : List En), vs = [.int st] ∧ 1 ≤ st ∧ st ≤ 9 ∧ Wd T H L ∧ ∀ H', Le H H' → Wd T H' L → Q (.bl true) H'
theorem ok__law_met (C : Cx0 K mg base) (o_BadArgument : OBad P w K mg base) (o_NotPossible : ONot P w K mg base) : Cal P w K mg base 6 "_law_met" ["step"] (sp_met K) := by
  have mk_Mirror := (ok_init (P := P) (w := w) C o_BadArgument).1
  have m_do := (ok_do (P := P) (w := w) C o_BadArgument o_NotPossible).1
  have m_reread := (ok_reread (P := P) (w := w) C o_BadArgument).1
  refine C.cal 11 11 rfl rfl sc__law_met (fun _ _ _ _ _ _ us hl => match us, hl with | [_], _ => rfl) (fun vs H Q E h => ?_) (fun f cdv A outer s H vs Q E hr h => ⟨_, PSs.nox
    (pss_cons (ps_set (i := 1) sc__law_met.nd rfl (Or.inl rfl) (pe_mkE mk_Mirror hr (by first | decide | omega) passL (pa_cons (pv 0) pa_nil)))
      (pss_cons (ps_for PassesOwn.never rfl (pi_range1 rfl (C.free 17) (pa_cons (pe_op op_sub (pe_op (k_mul (K := K) rfl) pe_int (pv 0)) pe_int) pa_nil)) (pg_name (i := 2) sc__law_met.nd rfl (Or.inl rfl))
      (pss_cons (ps_expr (pe_me m_do hr (by first | decide | omega) passL (pv 1) (pa_cons (pe_tup (pa_cons pe_str (pa_cons (pe_op (k_mul (K := K) rfl) pe_int (pv 2)) pa_nil))) pa_nil)))
      (pss_one (ps_expr (pe_me m_do hr (by first | decide | omega) passL (pv 1) (pa_cons (pe_tup (pa_cons pe_str pa_nil)) pa_nil))))))
      (pss_one (ps_ret (pe_cmpR (k_eq (K := K) rfl hr) (pe_me m_reread hr (by first | decide | omega) passL (pv 1) (pa_cons (pe_op (k_mul (K := K) rfl) pe_int (pv 0)) pa_nil)) (pe_op op_sub (pv 0) pe_int) (nomark _)))))), ?_⟩)
  · obtain ⟨st, T, L, rfl, _⟩ := h
    rfl
  · obtain ⟨st, T, L, rfl, s1, s2, w0, k⟩ := h
    repeat walk_at "go"
    refine k_init (by assumption) (.int _) (fun e => ?_) fun st' es l1 l2 p H1 e1 w1 => ?_
    · rw [inB_yes (by omega) (by omega)] at e
      cases e
    obtain rfl : st = st' := by
      injection es with es
      omega
    refine ⟨rfl, ?_⟩
    rename_i x _ l0 _
    repeat walk_at "go"
    refine n_1 (by omega) ?_
    refine f_rng (fun i σ H' => ∃ x2, σ = [some (.int st), some (.ref x), x2] ∧ Le H H' ∧ Wd T H' (fMir K x p st i (met i) L)) ⟨_, rfl, l0.trans e1, w1⟩ ?_ ?_
    · rintro i σ H2 hi ⟨x2, rfl, l2, w2⟩
      rw [Int.zero_add]
      repeat walk_at "go"
      refine k_row (by assumption) (by rw [met_len]; omega) (by rw [met_len]; omega) (by walk_at "pd") (by omega) (by omega) (fun c => ?_) fun _ _ H3 l3 w3 => ?_
      · exfalso
        rcases c with c | ⟨l, c1, c2⟩
        · rw [met_len] at c; omega
        · have := met_last c1
          omega
      rw [← met_succ] at w3
      repeat walk_at "go"
      refine k_copy (by assumption) (by rw [met_len]; omega) (by rw [met_len]; omega) (by walk_at "pd") (fun c => ?_) fun _ H5 l5 w5 => ?_
      · exfalso
        rw [met_len] at c; omega
      exact ⟨_, rfl, by walk_at "le", w5⟩
    · rintro σ H2 ⟨x2, rfl, l2, w2⟩
      repeat walk_at "go"
      rw [show (2 * (st : Int) - 1).toNat = 2 * st - 1 by omega] at w2
      refine k_reread w2 (by rw [met_len]; omega) s1 (by omega) (by omega) fun H3 l3 w3 => ?_
      repeat walk_at "go"
      rw [met_cnt _ _ (by omega), show (2 * st - 1) % st = st - 1 by
        rw [show 2 * st - 1 = (st - 1) + st by omega, Nat.add_mod_right]
        exact Nat.mod_eq_of_lt (by omega), decide_eq_true (by omega)]
      exact k _ (l2.trans l3) w3.tail.tail
end
end K83

local macro_rules | `(tactic| walk_at "ws") => `(tactic| (with_reducible assumption; walk_at "sel"))

namespace K83
section
variable {P : Program} {w : World} {K : PySem.W.Frag} {mg : Str → Option Value} {base : Heap} {T : List (Addr × Str)} {H : Hp} {L F R R1 R2 R3 R4 : List En} {E : XK} {Q : VK}
theorem mir_at {a p : Addr} {st cp : Nat} {rs : List Int} (w : Wd T H L) (s1 : Sel (a, isI (CM K) (flds st cp p)) L R1) (s2 : Sel (p, isL (rs.map V.int)) L R2) : Mir K H a p st cp rs := ⟨w.ins s1, w.lst s2⟩
theorem k_twin {a p : Addr} {st cp : Nat} {rs : List Int} (w : Wd T H L) (s1 : Sel (a, isI (CM K) (flds st cp p)) L R1) (s2 : Sel (p, isL (rs.map V.int)) L R2) (l1 : 1 ≤ st) (l2 : st ≤ 100) (q : ∀ b p' H', Le H H' → Wd T H' (fMir K b p' st cp rs L) → Q (.ref b) H') : sp_twin K [.ref a] H Q E :=
  ⟨a, p, st, cp, rs, rfl, mir_at w s1 s2, l1, l2, fun b p' H' hb hp e m => q b p' H' (Le.ex e) (by
    obtain ⟨m1, m2⟩ := of_mir m
    refine (((w.ex e).cons (w.fresh hp) m2).cons ?_ m1)
    rintro z
    rcases List.mem_cons.mp z with z | z
    · exact m.ne z
    · exact w.fresh hb z)⟩
theorem k_own {neg : Bool} {a p b p' : Addr} {st cp st' cp' : Nat} {rs rs' : List Int} (w : Wd T H L) (s1 : Sel (a, isI (CM K) (flds st cp p)) L R1) (s2 : Sel (p, isL (rs.map V.int)) L R2) (s3 : Sel (b, isI (CM K) (flds st' cp' p')) L R3) (s4 : Sel (p', isL (rs'.map V.int)) L R4)
    (q : ∀ H', Le H H' → Wd T H' L → Q (.bl (if neg then !decide (st = st' ∧ cp = cp' ∧ rs = rs') else decide (st = st' ∧ cp = cp' ∧ rs = rs'))) H') : rOwn (CM K) neg (sp_eq K) E (.ref a) (.ref b) H Q := by
  have m1 := mir_at w s1 s2
  have m2 := mir_at w s3 s4
  obtain ⟨⟨dx, g1⟩, _⟩ := id m1
  obtain ⟨⟨dy, g2⟩, _⟩ := id m2
  exact ⟨a, dx, _, b, dy, _, rfl, rfl, g1, g2, a, p, st, cp, rs, b, p', st', cp', rs', rfl, m1, m2, fun H' e => ⟨_, rfl, q H' (Le.ex e) (w.ex e)⟩⟩
theorem k_ledNo {a p : Addr} {st cp : Nat} {rs : List Int} {v : V} {Ty : String} (w : Wd T H L) (s1 : Sel (a, isI (CM K) (flds st cp p)) L R1) (s2 : Sel (p, isL (rs.map V.int)) L R2) (l6 : rs.length ≤ 600) (l1 : 1 ≤ st) (ty : IsTy K H v Ty) (no : inB 0 1000001 v = false) (k : Refuse T L (cBad0 K) "name" "mark" H E) :
    sp_led K [.ref a, v] H Q E ∧ sp_reread K [.ref a, v] H Q E := by
  have m := mir_at w s1 s2
  have z : ∀ {A : Prop} (n : Int), v = .int n → 0 ≤ n → n ≤ 1000001 → A := fun n e a b => by
    rw [e, inB_yes a b] at no
    cases no
  exact ⟨⟨a, p, st, cp, rs, v, Ty, rfl, m, l6, l1, ty, fun _ => k.old w, fun n e a b => z n e a b⟩, ⟨a, p, st, cp, rs, v, Ty, rfl, m, l6, l1, ty, fun _ => k.old w, fun n e a b => z n e a b⟩⟩
theorem k_isled {u v : V} {Ty Tv : String} (w : Wd T H L) (ty : IsTy K H u Ty) (tv : IsTy K H v Tv) (k1 : inB 1 100 u = false → Refuse T L (cBad0 K) "name" "step" H E) (k2 : inB 1 100 u = true → inB 0 100 v = false → Refuse T L (cBad0 K) "name" "again" H E)
    (q : ∀ i j : Int, u = .int i → v = .int j → 1 ≤ i → i ≤ 100 → 0 ≤ j → j ≤ 100 → Q (.bl (decide (i - 1 ≤ j))) H) : sp_is_led K [u, v] H Q E :=
  ⟨u, v, Ty, Tv, rfl, ty, tv, fun e => (k1 e).old w, fun e f => (k2 e f).old w, q⟩
theorem Refuse.any {C : Addr} {f n : Str} (h : Refuse T L C f n H E) {A : Prop} (no : A → False) : A → Refuse T L C f n H E := fun a => (no a).elim
abbrev s__law_refused : Stmt := top 20
theorem sc__law_refused : FnScope ["call", "e"] ["call"] (defScope s__law_refused) := ⟨rfl, rfl, rfl, by decide +kernel, rfl, by decide +kernel, by decide +kernel⟩
theorem ref_ok (C : Cx0 K mg base) (o : OBad P w K mg base) : RefT K mg "_law_refused" (TTref (cBad0 K) "name" "") := by
  obtain ⟨fd, F⟩ := C.says.def_ 9 (d := dd "_law_refused" 20) rfl
  have kp := F.kp
  have hb : Binds K fd ["call"] [] := FunD.bindsN F (fun _ _ _ _ _ _ us hl => match us, hl with | [_], _ => rfl)
  obtain ⟨oc, od, dV, kV, doc, pm, an, cdv, ct, osl, rfl, lk, hcd, _, _⟩ := F.ex
  exact ⟨_, oc, od, osl, _, _, _, dV, kV, doc, pm, cdv, ct, an, "call", "e", lk, kp, hcd, He.glo_ok C.kin C.glob (C.says.fact 9 (f := .glo "_law_refused") rfl), hb, sc__law_refused, rfl, ⟨by decide, by decide⟩, fun X eK emg q =>
    ref_gives (e := "BadArgument") rfl (by rw [emg]; exact o.1) (by decide) (by rw [eK]; exact o.2.2.2.2.1.1) (by rw [eK]; exact o.2.2.2.2.1.2) (by rw [eK]; exact o.2.2.2.2.2.1) (by decide +kernel) rfl (by decide) (by decide) (fun _ => rfl) (fun _ => rfl)⟩
abbrev s__law_told : Stmt := top 19
theorem sc__law_told : FnScope ["call", "e"] ["call"] (defScope s__law_told) := ⟨rfl, rfl, rfl, by decide +kernel, rfl, by decide +kernel, by decide +kernel⟩
theorem told_ok (C : Cx0 K mg base) (o : ONot P w K mg base) : RefT K mg "_law_told" (TTtold (cNot0 K) "word" "fine" "not") := by
  obtain ⟨fd, F⟩ := C.says.def_ 8 (d := dd "_law_told" 19) rfl
  have kp := F.kp
  have hb : Binds K fd ["call"] [] := FunD.bindsN F (fun _ _ _ _ _ _ us hl => match us, hl with | [_], _ => rfl)
  obtain ⟨oc, od, dV, kV, doc, pm, an, cdv, ct, osl, rfl, lk, hcd, _, _⟩ := F.ex
  exact ⟨_, oc, od, osl, _, _, _, dV, kV, doc, pm, cdv, ct, an, "call", "e", lk, kp, hcd, He.glo_ok C.kin C.glob (C.says.fact 8 (f := .glo "_law_told") rfl), hb, sc__law_told, rfl, ⟨by decide, by decide⟩, fun X eK emg q =>
    told_gives (e := "NotPossible") rfl (by rw [emg]; exact o.1) (by decide) (by rw [eK]; exact o.2.2.2.2.1.1) (by rw [eK]; exact o.2.2.2.2.1.2) (by rw [eK]; exact o.2.2.2.2.2.1) (by decide +kernel) rfl (by decide) (by decide) (fun _ => rfl)⟩
abbrev s__law_odd_right : Stmt := top 23
theorem sc__law_odd_right : FnScope ["dice", "mirror", "before", "bad", "mark", "number", "told"] ["dice", "mirror"] (defScope s__law_odd_right) := ⟨rfl, rfl, rfl, by decide +kernel, rfl, by decide +kernel, by decide +kernel⟩
def sp_odd (K : PySem.W.Frag) (T : List (Addr × Str)) : Sp := fun vs H Q _ => ∃ d a p st cp rs n L, vs = [.ref d, .ref a] ∧ Wd T H ((d, isDice n) :: fMir K a p st cp rs L) ∧ n ≤ 100000 ∧ cp ≤ rs.length ∧ rs.length ≤ 600 ∧ 1 ≤ st ∧ st ≤ 100 ∧ ∀ H', Le H H' → Wd T H' ((d, isDice (n + 4)) :: fMir K a p st cp rs L) → Q (.bl true) H'
theorem ok__law_odd_right (C : Cx0 K mg base) (o_BadArgument : OBad P w K mg base) (o_NotPossible : ONot P w K mg base) (own_mro : PySem.W.mroIn K (CM K) (.type "object") = some true) (own_ne : PySem.W.findIn K (.ref (CM K)) "__ne__" = some (some (.builtin "object.__ne__"))) {TT0 : List (Addr × Str)} {Pa : Addr} (TB : LamX.TabB base mg (He.codeOf K ("_law_odd_right", none)) Pa) (tm : (Pa, ("_law_odd_right.<locals>.<lambda>" : Str)) ∈ TT0) (tu : ∀ p ∈ TT0, p.1 = Pa → p.2 = "_law_odd_right.<locals>.<lambda>") :
    CalG P w K mg base 12 "_law_odd_right" ["dice", "mirror"] (sp_odd K TT0) := by
  have R_law_refused := ref_ok (P := P) (w := w) C o_BadArgument
  have c__law_pick := ok__law_pick (P := P) (w := w) C
  have m_twin := ok_twin (P := P) (w := w) C o_BadArgument
  have m_eq := ok_eq (P := P) (w := w) C
  have mk_do := (ok_do (P := P) (w := w) C o_BadArgument o_NotPossible).2
  have m_led := (ok_led (P := P) (w := w) C o_BadArgument).1
  have m_reread := (ok_reread (P := P) (w := w) C o_BadArgument).1
  have mk_Mirror := (ok_init (P := P) (w := w) C o_BadArgument).1
  have c_is_led := (ok_is_led (P := P) (w := w) C o_BadArgument).1
  refine C.calL 12 12 rfl rfl sc__law_odd_right (fun _ _ _ _ _ _ us hl => match us, hl with | [_, _], _ => rfl) (fun vs H Q E h => ?_) (fun cdv A outer s H vs Q E hcode gd hr h => ⟨_, PSs.nox
    (pss_cons (ps_set (i := 2) sc__law_odd_right.nd rfl (Or.inl rfl) (pe_me0 m_twin hr (by first | decide | omega) passL (pv 1)))
      (pss_cons (ps_set (i := 3) sc__law_odd_right.nd rfl (Or.inr rfl) (pe_f c__law_pick hr (by first | decide | omega) passL (pa_cons (pv 0) (pa_cons (pe_lst (pa_cons pe_non (pa_cons (pe_tup pa_nil) (pa_cons pe_str (pa_cons (pe_tup (pa_cons pe_str (pa_cons pe_int pa_nil))) (pa_cons (pe_tup (pa_cons pe_str pa_nil)) (pa_cons (pe_tup (pa_cons pe_str (pa_cons (pe_un un_neg pe_int) pa_nil))) (pa_cons (pe_tup (pa_cons pe_str (pa_cons pe_int pa_nil))) (pa_cons (pe_tup (pa_cons pe_str (pa_cons pe_bl pa_nil))) (pa_cons (pe_lst (pa_cons pe_str pa_nil)) (pa_cons (pe_tup (pa_cons pe_str (pa_cons pe_int (pa_cons pe_int pa_nil)))) (pa_cons (pe_tup (pa_cons pe_str (pa_cons pe_int pa_nil))) pa_nil)))))))))))) pa_nil))))
      (pss_cons (ps_asg (pe_tup (pa_cons (pe_f c__law_pick hr (by first | decide | omega) passL (pa_cons (pv 0) (pa_cons (pe_lst (pa_cons (pe_un un_neg pe_int) (pa_cons pe_int (pa_cons pe_non (pa_cons pe_bl (pa_cons pe_str pa_nil)))))) pa_nil))) (pa_cons (pe_f c__law_pick hr (by first | decide | omega) passL (pa_cons (pv 0) (pa_cons (pe_lst (pa_cons pe_int (pa_cons pe_int (pa_cons pe_non (pa_cons pe_bl pa_nil))))) pa_nil))) pa_nil))) (k_two (K := K) (i := 4) (j := 5) rfl sc__law_odd_right.nd rfl rfl (Or.inr rfl) (Or.inr rfl) (Or.inl rfl) (Or.inl rfl) rfl))
      (pss_cons (ps_if (PW.pt (pw_or (pt_cmpR (k_ne (K := K) rfl hr) (pe_refT (T := TT0) (k := 8) R_law_refused TB hcode tm tu hr (by decide) (LamX.lamS_by (show LamX.lamSB (defScope s__law_odd_right) _ = true by decide +kernel)) rfl (fun _ _ _ _ _ => rfl) (fun A outer s H E f c_ hr => (pe_meK mk_do hr (by first | decide | omega) (passes_call (takes_of rfl rfl rfl rfl) fun _ _ _ _ h => h) (pv 1) (pk_cons (pv 3) pk_nil)))) pe_str (nomark _)) (pw_or1 (pt_cmpR (op_ownNe m_eq own_mro own_ne hr (by first | decide | omega) passL) (pv 1) (pv 2) (nomark _))))) (pss_one (ps_ret pe_bl)) pss_nil)
      (pss_cons (ps_set (i := 6) sc__law_odd_right.nd rfl (Or.inl rfl) (pe_lst (pa_cons (pe_refT (T := TT0) (k := 8) R_law_refused TB hcode tm tu hr (by decide) (LamX.lamS_by (show LamX.lamSB (defScope s__law_odd_right) _ = true by decide +kernel)) rfl (fun _ _ _ _ _ => rfl) (fun A outer s H E f c_ hr => (pe_me m_led hr (by first | decide | omega) (passes_call (takes_of rfl rfl rfl rfl) fun _ _ _ _ h => h) (pv 1) (pa_cons (pv 4) pa_nil)))) (pa_cons (pe_refT (T := TT0) (k := 8) R_law_refused TB hcode tm tu hr (by decide) (LamX.lamS_by (show LamX.lamSB (defScope s__law_odd_right) _ = true by decide +kernel)) rfl (fun _ _ _ _ _ => rfl) (fun A outer s H E f c_ hr => (pe_me m_reread hr (by first | decide | omega) (passes_call (takes_of rfl rfl rfl rfl) fun _ _ _ _ h => h) (pv 1) (pa_cons (pv 4) pa_nil)))) (pa_cons (pe_refT (T := TT0) (k := 8) R_law_refused TB hcode tm tu hr (by decide) (LamX.lamS_by (show LamX.lamSB (defScope s__law_odd_right) _ = true by decide +kernel)) rfl (fun _ _ _ _ _ => rfl) (fun A outer s H E f c_ hr => (pe_mkE mk_Mirror hr (by first | decide | omega) (passes_call (takes_of rfl rfl rfl rfl) fun _ _ _ _ h => h) (pa_cons (pv 5) pa_nil)))) pa_nil)))))
      (pss_cons (ps_set (i := 6) sc__law_odd_right.nd rfl (Or.inl rfl) (pe_op (k_add (K := K) rfl) (pv 6) (pe_lst (pa_cons (pe_refT (T := TT0) (k := 8) R_law_refused TB hcode tm tu hr (by decide) (LamX.lamS_by (show LamX.lamSB (defScope s__law_odd_right) _ = true by decide +kernel)) rfl (fun _ _ _ _ _ => rfl) (fun A outer s H E f c_ hr => (pe_f c_is_led hr (by first | decide | omega) (passes_call (takes_of rfl rfl rfl rfl) fun _ _ _ _ h => h) (pa_cons (pv 5) (pa_cons (pe_un un_neg pe_int) pa_nil))))) (pa_cons (pe_refT (T := TT0) (k := 8) R_law_refused TB hcode tm tu hr (by decide) (LamX.lamS_by (show LamX.lamSB (defScope s__law_odd_right) _ = true by decide +kernel)) rfl (fun _ _ _ _ _ => rfl) (fun A outer s H E f c_ hr => (pe_f c_is_led hr (by first | decide | omega) (passes_call (takes_of rfl rfl rfl rfl) fun _ _ _ _ h => h) (pa_cons pe_int (pa_cons (pe_f c__law_pick hr (by first | decide | omega) (passes_call (takes_of rfl rfl rfl rfl) fun _ _ _ _ h => h) (pa_cons (pv 0) (pa_cons (pe_lst (pa_cons (pe_un un_neg pe_int) (pa_cons pe_int (pa_cons pe_non pa_nil)))) pa_nil))) pa_nil))))) pa_nil)))))
      (pss_one (ps_ret (pe_cmpR (k_eq (K := K) rfl hr) (pv 6) (pe_lst (pa_cons pe_str (pa_cons pe_str (pa_cons pe_str (pa_cons pe_str (pa_cons pe_str pa_nil)))))) (nomark _)))))))))), ?_⟩)
  · obtain ⟨d, a, p, st, cp, rs, n, L, rfl, _⟩ := h
    rfl
  · obtain ⟨d, a, p, st, cp, rs, n, L, rfl, w0, n5, lc, lr, s1, s2, k⟩ := h
    repeat walk_at "go"
    refine k_twin (by assumption) (by walk_at "sel") (by walk_at "sel") s1 s2 fun b p' H1 l1 w1 => ?_
    repeat walk_at "go"
    refine k_pickL (by assumption) (by walk_at "sel") (by walk_at "sel") (by omega) (by simp) (by simp) fun bad H2 hbad l2 w2 => ?_
    simp only [List.mem_cons, List.not_mem_nil, or_false] at hbad
    repeat walk_at "go"
    refine k_pickL (by assumption) (by walk_at "sel") (by walk_at "sel") (by omega) (by simp) (by simp) fun mark H3 hmark l3 w3 => ?_
    obtain ⟨Tm, tym, nom⟩ : ∃ Ty, (∀ H', IsTy K H' mark Ty) ∧ inB 0 1000001 mark = false := by
      simp only [List.mem_cons, List.not_mem_nil, or_false] at hmark
      rcases hmark with rfl | rfl | rfl | rfl | rfl
      · exact ⟨_, fun _ => .int _, rfl⟩
      · exact ⟨_, fun _ => .int _, rfl⟩
      · exact ⟨_, fun _ => .non, rfl⟩
      · exact ⟨_, fun _ => .bl _, rfl⟩
      · exact ⟨_, fun _ => .str _, rfl⟩
    repeat walk_at "go"
    refine k_pickL (by assumption) (by walk_at "sel") (by walk_at "sel") (by omega) (by simp) (by simp) fun num H4 hnum l4 w4 => ?_
    obtain ⟨Tn, tyn, non⟩ : ∃ Ty, (∀ H', IsTy K H' num Ty) ∧ inB 1 100 num = false := by
      simp only [List.mem_cons, List.not_mem_nil, or_false] at hnum
      rcases hnum with rfl | rfl | rfl | rfl
      · exact ⟨_, fun _ => .int _, rfl⟩
      · exact ⟨_, fun _ => .int _, rfl⟩
      · exact ⟨_, fun _ => .non, rfl⟩
      · exact ⟨_, fun _ => .bl _, rfl⟩
    repeat walk_at "go"
    refine n_ref (by assumption) fun H5 l5 w5 => ?_
    repeat walk_at "go"
    have nostep : ∀ {db : PyData}, stepD db = false → ∀ n, db = .tuple [.str "row", .int n] → 0 ≤ n → n ≤ 1000000 → False := fun sb n e a b => by
      rw [e, stepD_row (by decide)] at sb
      have sb : (decide (0 ≤ n) && decide (n ≤ 1000000)) = false := sb
      rw [decide_eq_true a, decide_eq_true b] at sb
      cases sb
    have nocopy : ∀ {A : Prop} {db : PyData}, stepD db = false → db = .tuple [.str "copy"] → A := fun sb e => by
      rw [e, stepD_copy rfl] at sb
      cases sb
    obtain ⟨db, dpb, sb, shb⟩ : ∃ db, Dp K H5 bad db ∧ stepD db = false ∧ SeqAt.shaped db = true := by
      rcases hbad with rfl | rfl | rfl | rfl | rfl | rfl | rfl | rfl | rfl | rfl | rfl <;> exact ⟨_, by walk_at "dp", by decide +kernel, by decide +kernel⟩
    refine k_mdo (by walk_at "wd") lc lr dpb shb (fun _ => Refuse.caught fun H6 l6 w6 => ?_) (nocopy sb) (nocopy sb) (fun n e a b => (nostep sb n e a b).elim) (fun n e a b => (nostep sb n e a b).elim)
    repeat walk_at "go"
    refine k_own (by assumption) (by walk_at "sel") (by walk_at "sel") (by walk_at "sel") (by walk_at "sel") fun H7 l7 w7 => ?_
    refine ⟨_, rfl, ?_⟩
    rw [decide_eq_true (show st = st ∧ cp = cp ∧ rs = rs from ⟨rfl, rfl, rfl⟩)]
    repeat walk_at "go"
    refine n_ref (by assumption) fun H8 l8 w8 => ?_
    repeat walk_at "go"
    refine (k_ledNo w8 (by walk_at "sel") (by walk_at "sel") lr s1 (tym _) nom (Refuse.caught fun H9 l9 w9 => ?_)).1
    repeat walk_at "go"
    refine n_ref (by assumption) fun H10 l10 w10 => ?_
    repeat walk_at "go"
    refine (k_ledNo w10 (by walk_at "sel") (by walk_at "sel") lr s1 (tym _) nom (Refuse.caught fun H11 l11 w11 => ?_)).2
    repeat walk_at "go"
    refine n_ref (by assumption) fun H12 l12 w12 => ?_
    repeat walk_at "go"
    refine k_init (by assumption) (tyn _) (fun _ => Refuse.caught fun H13 l13 w13 => ?_) fun st' e a b => ?_
    rotate_left
    · rw [e, inB_yes (by omega) (by omega)] at non
      cases non
    repeat walk_at "go"
    refine n_ref (by assumption) fun H14 l14 w14 => ?_
    repeat walk_at "go"
    refine k_isled w14 (tyn _) (.int _) (fun _ => Refuse.caught fun H15 l15 w15 => ?_) (fun e => ?_) fun i j e _ a b => ?_
    rotate_left
    · rw [non] at e
      cases e
    · rw [e, inB_yes a b] at non
      cases non
    repeat walk_at "go"
    refine n_ref (by assumption) fun H16 l16 w16 => ?_
    repeat walk_at "go"
    refine k_pickL (by assumption) (by walk_at "sel") (by walk_at "sel") (by omega) (by simp) (by simp) fun ag H17 hag l17 w17 => ?_
    obtain ⟨Ta, tya, noa⟩ : ∃ Ty, (∀ H', IsTy K H' ag Ty) ∧ inB 0 100 ag = false := by
      simp only [List.mem_cons, List.not_mem_nil, or_false] at hag
      rcases hag with rfl | rfl | rfl
      · exact ⟨_, fun _ => .int _, rfl⟩
      · exact ⟨_, fun _ => .int _, rfl⟩
      · exact ⟨_, fun _ => .non, rfl⟩
    repeat walk_at "go"
    refine k_isled w17 (.int _) (tya _) (fun e => ?_) (fun _ _ => Refuse.caught fun H18 l18 w18 => ?_) fun i j _ e _ _ a b => ?_
    · cases e
    rotate_left
    · rw [e, inB_yes a b] at noa
      cases noa
    repeat walk_at "go"
    with_reducible refine n_catL (by with_reducible assumption) (by walk_at "sel") (by walk_at "sel") (by decide) fun p5 H19 l19 w19 => ?_
    simp only [List.cons_append, List.nil_append] at w19
    repeat walk_at "go"
    refine n_eqT (by walk_at "dp") (by walk_at "dp") (by decide +kernel) (by decide +kernel) (by decide +kernel) ?_
    exact k _ (by walk_at "le") (by walk_at "wd")
end
end K83

local macro_rules | `(tactic| walk_at "ws") => `(tactic| (with_reducible assumption; walk_at "sel"))

namespace K83
section
variable {P : Program} {w : World} {K : PySem.W.Frag} {mg : Str → Option Value} {base : Heap} {T : List (Addr × Str)} {H : Hp} {L F R R1 R2 R3 R4 : List En} {E : XK} {Q : VK}
theorem k_marks {a p r mk : Addr} {cp st : Nat} {rs ns : List Int} (w : Wd T H L) (s1 : Sel (a, isI (CM K) (flds st cp p)) L R1) (s2 : Sel (p, isL (rs.map V.int)) L R2) (s3 : Sel (r, isL (rs.map V.int)) L R3) (s4 : Sel (mk, isL (ns.map V.int)) L R4) (asc : rs.Pairwise (· < ·)) (lc : cp ≤ rs.length) (l6 : rs.length ≤ 600) (l1 : 1 ≤ st) (l2 : st ≤ 100) (ln : ns.length ≤ 100000) (hn : ∀ n ∈ ns, 0 ≤ n ∧ n ≤ 1000001)
    (q : ∀ H', Le H H' → Wd T H' L → Q (.bl true) H') : sp_marks K [.ref a, .ref r, .int ((cp : Nat) : Int), .int ((st : Nat) : Int), .ref mk] H Q E :=
  ⟨a, p, r, mk, cp, st, rs, ns, rfl, mir_at w s1 s2, w.sqL s3, w.sqL s4, asc, lc, l6, l1, l2, ln, hn, fun H' e => q H' (Le.ex e) (w.ex e)⟩
abbrev Q1 : Str := "_law_right.<locals>.<lambda>"
abbrev s__law_right : Stmt := top 24
theorem sc__law_right : FnScope ["dice", "step", "rows", "copied", "mirror", "last", "turn", "place", "due", "marks", "again", "twin"] ["dice"] (defScope s__law_right) := ⟨rfl, rfl, rfl, by decide +kernel, rfl, by decide +kernel, by decide +kernel⟩
def sp_right (K : PySem.W.Frag) (T : List (Addr × Str)) : Sp := fun vs H Q _ => ∃ d L, vs = [.ref d] ∧ Wd T H ((d, isDice 0) :: L) ∧ ∀ n H', Le H H' → Wd T H' ((d, isDice n) :: L) → Q (.bl true) H'
/-- what the rows and the last place say -/
def LastOk (rs : List Int) (l : Int) : Prop := (rs = [] ∧ l = -1) ∨ rs[rs.length - 1]? = some l
theorem LastOk.snoc {rs : List Int} {n : Int} : LastOk (rs ++ [n]) n := .inr (by rw [List.length_append, List.length_singleton]; simp)
theorem asc_snoc {rs : List Int} {l n : Int} (p : rs.Pairwise (· < ·)) (h : LastOk rs l) (c : l < n) : (rs ++ [n]).Pairwise (· < ·) := by
  rw [List.pairwise_append]
  refine ⟨p, List.pairwise_singleton _ _, fun x hx y hy => ?_⟩
  rw [List.mem_singleton.mp hy]
  rcases h with ⟨rfl, _⟩ | h
  · cases hx
  · obtain ⟨i, hi⟩ := List.getElem?_of_mem hx
    obtain ⟨h1, h2⟩ := List.getElem?_eq_some_iff.mp hi
    obtain ⟨h3, h4⟩ := List.getElem?_eq_some_iff.mp h
    by_cases e : i = rs.length - 1
    · subst e
      rw [← h2]
      have : rs[rs.length - 1] = l := h4
      omega
    · have := List.pairwise_iff_getElem.mp p i (rs.length - 1) h1 h3 (by omega)
      omega
theorem ok__law_right (C : Cx0 K mg base) (o_BadArgument : OBad P w K mg base) (o_NotPossible : ONot P w K mg base) (own_mro : PySem.W.mroIn K (CM K) (.type "object") = some true) (own_ne : PySem.W.findIn K (.ref (CM K)) "__ne__" = some (some (.builtin "object.__ne__"))) {TT0 : List (Addr × Str)} {Pa Pb : Addr} (TBa : LamX.TabB base mg (He.codeOf K ("_law_odd_right", none)) Pa) (tma : (Pa, ("_law_odd_right.<locals>.<lambda>" : Str)) ∈ TT0) (tua : ∀ p ∈ TT0, p.1 = Pa → p.2 = "_law_odd_right.<locals>.<lambda>")
    (TB : LamX.TabB base mg (He.codeOf K ("_law_right", none)) Pb) (tm : (Pb, Q1) ∈ TT0) (tu : ∀ p ∈ TT0, p.1 = Pb → p.2 = Q1) :
    CalG P w K mg base 14 "_law_right" ["dice"] (sp_right K TT0) := by
  have R_law_told := told_ok (P := P) (w := w) C o_NotPossible
  have c__law_pick := ok__law_pick (P := P) (w := w) C
  have c__law_roll := ok__law_roll (P := P) (w := w) C
  have c__law_marks_right := ok__law_marks_right (P := P) (w := w) C o_BadArgument
  have c__law_odd_right := ok__law_odd_right (P := P) (w := w) C o_BadArgument o_NotPossible own_mro own_ne TBa tma tua
  have c__law_met := ok__law_met (P := P) (w := w) C o_BadArgument o_NotPossible
  have m_twin := ok_twin (P := P) (w := w) C o_BadArgument
  have m_eq := ok_eq (P := P) (w := w) C
  have m_do := (ok_do (P := P) (w := w) C o_BadArgument o_NotPossible).1
  have mkk_Mirror := (ok_init (P := P) (w := w) C o_BadArgument).2
  have c_is_led := (ok_is_led (P := P) (w := w) C o_BadArgument).1
  have ck_is_led := (ok_is_led (P := P) (w := w) C o_BadArgument).2
  refine C.calL 13 13 rfl rfl sc__law_right (fun _ _ _ _ _ _ us hl => match us, hl with | [_], _ => rfl) (fun vs H Q E h => ?_) (fun cdv A outer s H vs Q E hcode gd hr h => ⟨_, PSs.nox
    (pss_cons (ps_asg (pe_tup (pa_cons (pe_f c__law_pick hr (by first | decide | omega) passL (pa_cons (pv 0) (pa_cons (pe_lst (pa_cons pe_int (pa_cons pe_int (pa_cons pe_int (pa_cons pe_int (pa_cons pe_int pa_nil)))))) pa_nil))) (pa_cons (pe_lst pa_nil) (pa_cons pe_int pa_nil)))) (k_three (K := K) (i := 1) (j := 2) (l := 3) rfl sc__law_right.nd rfl rfl rfl (Or.inl rfl) (Or.inr rfl) (Or.inl rfl) (Or.inl rfl) (Or.inl rfl) (Or.inl rfl) rfl))
      (pss_cons (ps_asg (pe_tup (pa_cons (pe_mkK mkk_Mirror hr (by first | decide | omega) passL (pk_cons (pv 1) pk_nil)) (pa_cons (pe_un un_neg pe_int) pa_nil))) (k_two (K := K) (i := 4) (j := 5) rfl sc__law_right.nd rfl rfl (Or.inr rfl) (Or.inl rfl) (Or.inl rfl) (Or.inl rfl) rfl))
      (pss_cons (ps_for PassesOwn.never rfl (pi_range1 rfl (C.free 17) (pa_cons (pe_f c__law_roll hr (by first | decide | omega) passL (pa_cons (pv 0) (pa_cons pe_int pa_nil))) pa_nil)) (pg_name (i := 6) sc__law_right.nd rfl (Or.inl rfl))
      (pss_one (ps_if (pt_cmpR (k_eq (K := K) rfl hr) (pe_f c__law_roll hr (by first | decide | omega) passL (pa_cons (pv 0) (pa_cons pe_int pa_nil))) pe_int (nomark _)) (pss_cons (ps_set (i := 7) sc__law_right.nd rfl (Or.inr rfl) (pe_op (k_add (K := K) rfl) (pv 5) (pe_f c__law_pick hr (by first | decide | omega) passL (pa_cons (pv 0) (pa_cons (pe_lst (pa_cons pe_int (pa_cons pe_int (pa_cons pe_int (pa_cons pe_int (pa_cons pe_int (pa_cons (pe_un un_neg pe_int) pa_nil))))))) pa_nil)))))
      (pss_cons (ps_set (i := 8) sc__law_right.nd rfl (Or.inl rfl) (pe_ifExp (pt_cmpR (k_gt (K := K) rfl hr) (pv 7) (pv 5) (nomark _)) pe_str pe_str))
      (pss_cons (ps_if (PW.pt (pw_and (pt_cmpR (k_ge (K := K) rfl hr) (pv 7) pe_int (nomark _)) (pw_and1 (pt_cmpR (k_ne (K := K) rfl hr) (pe_refT (T := TT0) (k := 10) R_law_told TB hcode tm tu hr (by decide) (LamX.lamS_by (show LamX.lamSB (defScope s__law_right) _ = true by decide +kernel)) rfl (fun _ _ _ _ _ => rfl) (fun A outer s H E f c_ hr => (pe_me m_do hr (by first | decide | omega) (passes_call (takes_of rfl rfl rfl rfl) fun _ _ _ _ h => h) (pv 4) (pa_cons (pe_tup (pa_cons pe_str (pa_cons (pv 7) pa_nil))) pa_nil)))) (pe_tup (pa_cons (pv 8) (pa_cons (pe_ifExp (pt_cmpR (k_eq (K := K) rfl hr) (pv 8) pe_str (nomark _)) pe_non pe_str) pa_nil))) (nomark _))))) (pss_one (ps_ret pe_bl)) pss_nil)
      (pss_one (ps_if (pt_cmpR (k_gt (K := K) rfl hr) (pv 7) (pv 5) (nomark _)) (pss_cons (ps_expr (k_append (K := K) rfl (pv 2) (pv 7)))
      (pss_one (ps_set (i := 5) sc__law_right.nd rfl (Or.inl rfl) (pv 7)))) pss_nil))))) (pss_cons (ps_set (i := 8) sc__law_right.nd rfl (Or.inl rfl) (pe_ifExp (pt_cmpR (k_lt (K := K) rfl hr) (pv 3) (pe_bi (k_len (K := K) rfl) (C.free 23) (by decide +kernel) (pa_cons (pv 2) pa_nil)) (nomark _)) (pe_tup (pa_cons pe_str (pa_cons pe_non pa_nil))) (pe_tup (pa_cons pe_str (pa_cons pe_str pa_nil)))))
      (pss_cons (ps_if (pt_cmpR (k_ne (K := K) rfl hr) (pe_refT (T := TT0) (k := 10) R_law_told TB hcode tm tu hr (by decide) (LamX.lamS_by (show LamX.lamSB (defScope s__law_right) _ = true by decide +kernel)) rfl (fun _ _ _ _ _ => rfl) (fun A outer s H E f c_ hr => (pe_me m_do hr (by first | decide | omega) (passes_call (takes_of rfl rfl rfl rfl) fun _ _ _ _ h => h) (pv 4) (pa_cons (pe_tup (pa_cons pe_str pa_nil)) pa_nil)))) (pv 8) (nomark _)) (pss_one (ps_ret pe_bl)) pss_nil)
      (pss_one (ps_set (i := 3) sc__law_right.nd rfl (Or.inl rfl) (pe_op (k_add (K := K) rfl) (pv 3) (pe_bt cr_int1 (C.free 20) (by decide +kernel) (pa_cons (pe_cmpR (k_eq (K := K) rfl hr) (pe_ix (k_ix (K := K) rfl) (pv 8) pe_int (fun _ _ => rfl)) pe_str (nomark _)) pa_nil))))))))))
      (pss_cons (ps_set (i := 9) sc__law_right.nd rfl (Or.inl rfl) (pe_op (k_add (K := K) rfl) (pe_lst (pa_cons pe_int (pa_cons pe_int (pa_cons (pe_op (k_add (K := K) rfl) (pv 5) pe_int) (pa_cons (pe_op (k_add (K := K) rfl) (pv 5) pe_int) (pa_cons pe_int pa_nil)))))) (pe_lc (own := [("turn", 6)]) rfl sc__law_right.nd (pi_range1 rfl (C.free 17) (pa_cons pe_int pa_nil)) (blkOk_by (N := ["dice", "step", "rows", "copied", "mirror", "last", "turn", "place", "due", "marks", "again", "twin"]) (sc := defScope s__law_right) (by decide +kernel)) (fun _ _ _ _ _ => (pg_name (i := 6) sc__law_right.nd rfl (Or.inl rfl))) (fun _ _ _ _ _ => pts_nil) (fun _ _ _ _ _ => (pe_bi (cr_max2 rfl) (C.free 18) (by decide +kernel) (pa_cons pe_int (pa_cons (pe_op op_sub (pe_op (k_add (K := K) rfl) (pe_f c__law_pick hr (by first | decide | omega) passL (pa_cons (pv 0) (pa_cons (pe_op (k_add (K := K) rfl) (pv 2) (pe_lst (pa_cons pe_int pa_nil))) pa_nil))) (pe_f c__law_roll hr (by first | decide | omega) passL (pa_cons (pv 0) (pa_cons pe_int pa_nil)))) pe_int) pa_nil)))))))
      (pss_cons (ps_if (PW.pt (pw_or (pt_not (k_truth (K := K) rfl (pe_f c__law_marks_right hr (by first | decide | omega) passL (pa_cons (pv 4) (pa_cons (pv 2) (pa_cons (pv 3) (pa_cons (pv 1) (pa_cons (pv 9) pa_nil)))))) (by intro _; rfl))) (pw_or (pt_not (k_truth (K := K) rfl (pe_fG c__law_odd_right gd hr (by decide) passL (pa_cons (pv 0) (pa_cons (pv 4) pa_nil))) (by intro _; rfl))) (pw_or1 (pt_not (k_truth (K := K) rfl (pe_f c__law_met hr (by first | decide | omega) passL (pa_cons (pe_bi (cr_min2 rfl) (C.free 26) (by decide +kernel) (pa_cons (pv 1) (pa_cons pe_int pa_nil))) pa_nil)) (by intro _; rfl))))))) (pss_one (ps_ret pe_bl)) pss_nil)
      (pss_cons (ps_set (i := 10) sc__law_right.nd rfl (Or.inl rfl) (pe_bi (cr_max2 rfl) (C.free 18) (by decide +kernel) (pa_cons pe_int (pa_cons (pe_op (k_add (K := K) rfl) (pe_op op_sub (pv 1) pe_int) (pe_f c__law_pick hr (by first | decide | omega) passL (pa_cons (pv 0) (pa_cons (pe_lst (pa_cons (pe_un un_neg pe_int) (pa_cons pe_int (pa_cons pe_int pa_nil)))) pa_nil)))) pa_nil))))
      (pss_cons (ps_set (i := 11) sc__law_right.nd rfl (Or.inl rfl) (pe_me0 m_twin hr (by first | decide | omega) passL (pv 4)))
      (pss_cons (ps_expr (pe_me m_do hr (by first | decide | omega) passL (pv 11) (pa_cons (pe_tup (pa_cons pe_str (pa_cons pe_int pa_nil))) pa_nil)))
      (pss_one (ps_ret (pe_and (pe_cmpR (op_ownNe m_eq own_mro own_ne hr (by first | decide | omega) passL) (pv 4) (pv 11) (nomark _)) (pe_and (pe_cmpR (op_ownEq m_eq hr (by first | decide | omega) passL) (pv 4) (pe_me0 m_twin hr (by first | decide | omega) passL (pv 4)) (nomark _)) (pe_and (pe_cmpR (k_eq (K := K) rfl hr) (pe_f c_is_led hr (by first | decide | omega) passL (pa_cons (pv 1) (pa_cons (pv 10) pa_nil))) (pe_cmpR (k_le (K := K) rfl hr) (pe_op op_sub (pv 1) pe_int) (pv 10) (nomark _)) (nomark _)) (pe_one (pe_cmpR (k_eq (K := K) rfl hr) (pe_kw0 ck_is_led hr (by decide) passL (pk_cons (pv 10) (pk_cons (pv 1) pk_nil))) (pe_cmpR (k_le (K := K) rfl hr) (pe_op op_sub (pv 1) pe_int) (pv 10) (nomark _)) (nomark _)))))))))))))))), ?_⟩)
  · obtain ⟨d, L, rfl, _⟩ := h
    rfl
  · obtain ⟨d, L, rfl, w0, k⟩ := h
    repeat walk_at "go"
    refine k_pickL (by assumption) (by walk_at "sel") (by walk_at "sel") (by omega) (by simp) (by simp) fun stv H1 hst l1 w1 => ?_
    obtain ⟨st, rfl, s1, s2⟩ : ∃ st : Nat, stv = .int st ∧ 1 ≤ st ∧ st ≤ 100 := by
      simp only [List.mem_cons, List.not_mem_nil, or_false] at hst
      rcases hst with rfl | rfl | rfl | rfl | rfl
      · exact ⟨1, rfl, by decide, by decide⟩
      · exact ⟨2, rfl, by decide, by decide⟩
      · exact ⟨3, rfl, by decide, by decide⟩
      · exact ⟨5, rfl, by decide, by decide⟩
      · exact ⟨100, rfl, by decide, by decide⟩
    repeat walk_at "go"
    refine k_init (by assumption) (.int _) (fun e => ?_) fun st' es _ _ p H2 l2 w2 => ?_
    · rw [inB_yes (by omega) (by omega)] at e
      cases e
    obtain rfl : st = st' := by
      injection es with es
      omega
    clear es
    refine ⟨rfl, ?_⟩
    rename_i r _ _ _ _ _ _ _ _ a _ _ _ _ _
    repeat walk_at "go"
    refine k_roll (by assumption) (by walk_at "sel") (by omega) (by omega) (by omega) fun m H3 hm l3 w3 => ?_
    repeat walk_at "go"
    refine n_1 (by omega) ?_
    rw [Int.toNat_natCast]
    refine f_rng (fun i σ H' => ∃ (cp : Nat) (rs : List Int) (l : Int) (n : Nat) (x6 x7 x8 : Option V), σ = [some (.ref d), some (.int st), some (.ref r), some (.int cp), some (.ref a), some (.int l), x6, x7, x8, none, none, none] ∧ Wd TT0 H' ((d, isDice n) :: (r, isL (rs.map V.int)) :: fMir K a p st cp rs L) ∧ Le H H' ∧
      LastOk rs l ∧ rs.Pairwise (· < ·) ∧ (∀ x ∈ rs, 0 ≤ x ∧ x ≤ 600) ∧ -1 ≤ l ∧ l ≤ 9 * i ∧ rs.length ≤ i ∧ cp ≤ rs.length ∧ n ≤ 4 + 2 * i) ⟨0, [], -1, _, _, _, _, rfl, (show Wd TT0 _ ((d, isDice _) :: (r, isL []) :: fMir K a p st 0 [] L) by walk_at "wd"), by walk_at "le", .inl ⟨rfl, rfl⟩, .nil, (fun x h => nomatch h), by omega, by omega, by simp, by simp, by omega⟩ ?_ ?_
    · rintro i σ H4 hi ⟨cp, rs, l, n, x6, x7, x8, rfl, w4, l4, lo, asc, rng, lm, lu, lr, lc, ln⟩
      rw [Int.zero_add]
      repeat walk_at "go"
      refine k_roll (by assumption) (by walk_at "sel") (by omega) (by omega) (by omega) fun c H5 hc l5 w5 => ?_
      repeat walk_at "go"
      refine r_D (fun c0 => ?_) (fun c0 => ?_)
      · repeat walk_at "go"
        refine k_pickL (by assumption) (by walk_at "sel") (by walk_at "sel") (by omega) (by simp) (by simp) fun v H6 hv l6 w6 => ?_
        obtain ⟨δ, rfl, d1, d2⟩ : ∃ δ : Int, v = .int δ ∧ -3 ≤ δ ∧ δ ≤ 9 := by
          simp only [List.mem_cons, List.not_mem_nil, or_false] at hv
          rcases hv with rfl | rfl | rfl | rfl | rfl | rfl <;> exact ⟨_, rfl, by decide, by decide⟩
        repeat walk_at "go"
        refine r_D (fun c1 => ?_) (fun c1 => ?_)
        · repeat walk_at "go"
          refine r_T (decide_eq_true (by omega)) ?_
          repeat walk_at "go"
          refine n_told (by assumption) fun H7 l7 w7 => ?_
          repeat walk_at "go"
          refine k_row (by walk_at "wd") lc (by omega) (by walk_at "pd") (by omega) (by omega) (fun c => ?_) fun _ _ H8 l8 w8 => ?_
          · exfalso
            rcases c with c | ⟨l0, c, c3⟩
            · omega
            · rcases lo with ⟨rfl, _⟩ | lo
              · cases c
              · rw [lo] at c
                cases c
                omega
          repeat walk_at "go"
          refine n_neF (by walk_at "dp") (by walk_at "dp") (by decide +kernel) (by decide +kernel) (by decide +kernel) ?_
          repeat walk_at "go"
          refine r_T (decide_eq_true c1) ?_
          repeat walk_at "go"
          refine n_appI (by with_reducible assumption) (by walk_at "sel") (by omega) fun H9 l9 w9 => ?_
          repeat walk_at "go"
          refine ⟨cp, rs ++ [l + δ], l + δ, _, _, _, _, rfl, by walk_at "wd", by walk_at "le", .snoc, asc_snoc asc lo c1, fun x hx => ?_, by omega, by omega, ?_, ?_, by omega⟩
          · rcases List.mem_append.mp hx with hx | hx
            · exact rng x hx
            · rw [List.mem_singleton.mp hx]
              omega
          · rw [List.length_append, List.length_singleton]; omega
          · rw [List.length_append, List.length_singleton]; omega
        · repeat walk_at "go"
          by_cases c2 : 0 ≤ l + δ
          · refine r_T (decide_eq_true c2) ?_
            repeat walk_at "go"
            have hl : rs[rs.length - 1]? = some l := by
              rcases lo with ⟨_, e⟩ | lo
              · omega
              · exact lo
            refine n_told (by assumption) fun H7 l7 w7 => ?_
            repeat walk_at "go"
            refine k_row (by walk_at "wd") lc (by omega) (by walk_at "pd") (by omega) (by omega) (fun c => Refuse.caught fun H8 l8 w8 => ?_) fun _ c _ _ _ => ?_
            rotate_left
            · have := c l hl
              omega
            repeat walk_at "go"
            refine n_neF (by walk_at "dp") (by walk_at "dp") (by decide +kernel) (by decide +kernel) (by decide +kernel) ?_
            repeat walk_at "go"
            refine r_F (decide_eq_false c1) ?_
            repeat walk_at "go"
            exact ⟨cp, rs, l, _, _, _, _, rfl, by walk_at "wd", by walk_at "le", lo, asc, rng, by omega, by omega, by omega, by omega, by omega⟩
          · refine r_F (decide_eq_false c2) ?_
            repeat walk_at "go"
            refine r_F (decide_eq_false c1) ?_
            repeat walk_at "go"
            exact ⟨cp, rs, l, _, _, _, _, rfl, by walk_at "wd", by walk_at "le", lo, asc, rng, by omega, by omega, by omega, by omega, by omega⟩
      · repeat walk_at "go"
        refine r_D (fun c1 => ?_) (fun c1 => ?_)
        · repeat walk_at "go"
          refine n_told (by assumption) fun H7 l7 w7 => ?_
          repeat walk_at "go"
          refine k_copy (by walk_at "wd") lc (by omega) (by walk_at "pd") (fun c => ?_) fun _ H8 l8 w8 => ?_
          · omega
          repeat walk_at "go"
          refine n_neF (by walk_at "dp") (by walk_at "dp") (by decide +kernel) (by decide +kernel) (by decide +kernel) ?_
          repeat walk_at "go"
          exact ⟨cp + 1, rs, l, _, _, _, _, rfl, by walk_at "wd", by walk_at "le", lo, asc, rng, by omega, by omega, by omega, by omega, by omega⟩
        · repeat walk_at "go"
          refine n_told (by assumption) fun H7 l7 w7 => ?_
          repeat walk_at "go"
          refine k_copy (by walk_at "wd") lc (by omega) (by walk_at "pd") (fun c => Refuse.caught fun H8 l8 w8 => ?_) fun c => ?_
          rotate_left
          · omega
          repeat walk_at "go"
          refine n_neF (by walk_at "dp") (by walk_at "dp") (by decide +kernel) (by decide +kernel) (by decide +kernel) ?_
          repeat walk_at "go"
          exact ⟨cp, rs, l, _, _, _, _, rfl, by walk_at "wd", by walk_at "le", lo, asc, rng, by omega, by omega, by omega, by omega, by omega⟩
    · rintro σ H4 ⟨cp, rs, l, n, x6, x7, x8, rfl, w4, l4, lo, asc, rng, lm, lu, lr, lc, ln⟩
      repeat walk_at "go"
      rename_i mk0 _ _ _
      refine n_1 (by omega) ?_
      refine c_emN V.int walk_range y_rng (by decide) (show Wd TT0 _ ((d, isDice n) :: (mk0, isL [.int 0, .int 1, .int (l + 1), .int (l + 2), .int 1000001]) :: (r, isL (rs.map V.int)) :: fMir K a p st cp rs L) by walk_at "wd")
        (fun i ds F1 => (∀ m ∈ ds, 0 ≤ m ∧ m ≤ 1000001) ∧ ∃ n', n' ≤ n + 2 * i ∧ F1 = (d, isDice n') :: (mk0, isL [.int 0, .int 1, .int (l + 1), .int (l + 2), .int 1000001]) :: (r, isL (rs.map V.int)) :: fMir K a p st cp rs L)
        ⟨(fun m h => nomatch h), n, by omega, rfl⟩ (fun _ => rfl) (fun _ _ _ _ _ _ _ _ _ => trivial) ?_ ?_
      · rintro i x L1 ds F1 H5 q N hi hx l5 w5 ⟨b, n', ln', rfl⟩ hq hN
        cases hx
        repeat walk_at "go"
        refine n_catL (by with_reducible assumption) (by walk_at "sel") (by walk_at "sel") (by rw [List.length_map, List.length_singleton]; exact Nat.le_trans (show rs.length + 1 ≤ 1000000 by omega) (by decide)) fun p1 H6 l6 w6 => ?_
        repeat walk_at "go"
        refine k_pickL (by assumption) (by walk_at "sel") (by walk_at "sel") (by omega) (by simp) (by rw [List.length_append, List.length_map, List.length_singleton]; omega) fun v H7 hv l7 w7 => ?_
        obtain ⟨m1, rfl, m2, m3⟩ : ∃ m1 : Int, v = .int m1 ∧ 0 ≤ m1 ∧ m1 ≤ 600 := by
          rcases List.mem_append.mp hv with hv | hv
          · obtain ⟨m1, hm, rfl⟩ := List.mem_map.mp hv
            exact ⟨m1, rfl, rng m1 hm⟩
          · exact ⟨0, List.mem_singleton.mp hv, by decide, by decide⟩
        repeat walk_at "go"
        refine k_roll (by assumption) (by walk_at "sel") (by omega) (by omega) (by omega) fun m4 H8 hm4 l8 w8 => ?_
        repeat walk_at "go"
        refine hq _ _ _ (by walk_at "le") (by walk_at "wd") ⟨fun m hm => ?_, _, ?_, rfl⟩
        · rcases List.mem_append.mp hm with hm | hm
          · exact b m hm
          · rw [List.mem_singleton.mp hm]
            omega
        · omega
      · rintro L1 ds F1 H5 l5 w5 ld ⟨b, n', ln', rfl⟩
        refine n_catI (ns := [0, 1, l + 1, l + 2, 1000001]) (ms := ds) (by with_reducible assumption) (by walk_at "sel") (by walk_at "sel") (by rfl) (by rfl) (by
          have : ds.length ≤ 6 := ld
          simp only [List.length_cons, List.length_nil]; omega) fun mk1 H6 l6 w6 => ?_
        repeat walk_at "go"
        refine k_marks (by with_reducible assumption) (by walk_at "sel") (by walk_at "sel") (by walk_at "sel") (by walk_at "sel") asc lc (by omega) s1 s2 (by
          have : ds.length ≤ 6 := ld
          rw [List.length_append]
          simp only [List.length_cons, List.length_nil]; omega) (fun m hm => ?_) fun H7 l7 w7 => ?_
        · rcases List.mem_append.mp hm with hm | hm
          · simp only [List.mem_cons, List.not_mem_nil, or_false] at hm
            omega
          · exact b m hm
        repeat walk_at "go"
        refine ⟨d, a, p, st, cp, rs, _, _, rfl, by walk_at "wd", by omega, lc, by omega, s1, s2, fun H8 l8 w8 => ?_⟩
        repeat walk_at "go"
        refine ⟨min st 9, TT0, _, by rw [show ((min st 9 : Nat) : Int) = min (st : Int) 9 by omega], by omega, by omega, w8, fun H9 l9 w9 => ?_⟩
        repeat walk_at "go"
        refine k_pickL (by assumption) (by walk_at "sel") (by walk_at "sel") (by omega) (by simp) (by simp) fun v H10 hv l10 w10 => ?_
        obtain ⟨δ, rfl, d1, d2⟩ : ∃ δ : Int, v = .int δ ∧ -1 ≤ δ ∧ δ ≤ 1 := by
          simp only [List.mem_cons, List.not_mem_nil, or_false] at hv
          rcases hv with rfl | rfl | rfl <;> exact ⟨_, rfl, by decide, by decide⟩
        repeat walk_at "go"
        refine k_twin (by assumption) (by walk_at "sel") (by walk_at "sel") s1 s2 fun tw p' H11 l11 w11 => ?_
        repeat walk_at "go"
        refine k_row (by walk_at "wd") lc (by omega) (by walk_at "pd") (by decide) (by decide) (fun c => ?_) fun _ _ H12 l12 w12 => ?_
        · exfalso
          rcases c with c | ⟨l0, c, c3⟩
          · omega
          · rcases lo with ⟨rfl, _⟩ | lo
            · cases c
            · rw [lo] at c
              cases c
              omega
        repeat walk_at "go"
        refine k_own (by assumption) (by walk_at "sel") (by walk_at "sel") (by walk_at "sel") (by walk_at "sel") fun H13 l13 w13 => ?_
        refine ⟨_, rfl, ?_⟩
        rw [decide_eq_false (show ¬ (st = st ∧ cp = cp ∧ rs = rs ++ [1000000]) from fun e => by
          have := congrArg List.length e.2.2
          rw [List.length_append, List.length_singleton] at this
          omega)]
        repeat walk_at "go"
        refine k_twin (by assumption) (by walk_at "sel") (by walk_at "sel") s1 s2 fun tw2 p2 H14 l14 w14 => ?_
        refine k_own (by assumption) (by walk_at "sel") (by walk_at "sel") (by walk_at "sel") (by walk_at "sel") fun H15 l15 w15 => ?_
        refine ⟨_, rfl, ?_⟩
        rw [decide_eq_true (show st = st ∧ cp = cp ∧ rs = rs from ⟨rfl, rfl, rfl⟩)]
        repeat walk_at "go"
        obtain ⟨ag, hag, ag0, ag1⟩ : ∃ ag, ag = max 0 ((st : Int) - 1 + δ) ∧ 0 ≤ ag ∧ ag ≤ 100 := ⟨_, rfl, by omega, by omega⟩
        rw [← hag]
        refine k_isled w15 (.int _) (.int _) (fun e => ?_) (fun _ e => ?_) fun i j e1 e2 _ _ _ _ => ?_
        · rw [inB_yes (by omega) (by omega)] at e
          cases e
        · rw [inB_yes ag0 ag1] at e
          cases e
        cases e1
        cases e2
        repeat walk_at "go"
        rw [decide_eq_true (show decide ((st : Int) - 1 ≤ ag) = decide ((st : Int) - 1 ≤ ag) from rfl)]
        repeat walk_at "go"
        refine k_isled w15 (.int _) (.int _) (fun e => ?_) (fun _ e => ?_) fun i j e1 e2 _ _ _ _ => ?_
        · rw [inB_yes (by omega) (by omega)] at e
          cases e
        · rw [inB_yes ag0 ag1] at e
          cases e
        cases e1
        cases e2
        repeat walk_at "go"
        rw [decide_eq_true (show decide ((st : Int) - 1 ≤ ag) = decide ((st : Int) - 1 ≤ ag) from rfl)]
        exact k _ _ (by walk_at "le") (by walk_at "wd")
abbrev s_law : Stmt := top 25
theorem sc_law : FnScope ["script", "spot"] ["script"] (defScope s_law) := ⟨rfl, rfl, rfl, by decide +kernel, rfl, by decide +kernel, by decide +kernel⟩
def sp_law (K : PySem.W.Frag) (TT0 : List (Addr × Str)) : Sp := fun vs H Q _ => ∃ (a : Addr) (ns : List Int) (L : List En), vs = [.ref a] ∧ ns.length ≤ 63 ∧ Wd TT0 H L ∧ (∀ H', Wd TT0 H' L → SqL K H' a (ns.map V.int)) ∧ ∀ H', Q (.bl true) H'
theorem ok_law {f0 : Addr} {fd0 : FuncData} (F : FunD K "law" "law" (defArgs s_law) (defBody s_law) (defScope s_law) [] [] f0 fd0) (C : Cx0 K mg base) (o_BadArgument : OBad P w K mg base) (o_NotPossible : ONot P w K mg base) (own_mro : PySem.W.mroIn K (CM K) (.type "object") = some true) (own_ne : PySem.W.findIn K (.ref (CM K)) "__ne__" = some (some (.builtin "object.__ne__"))) {TT0 : List (Addr × Str)} {Pa Pb : Addr} (TBa : LamX.TabB base mg (He.codeOf K ("_law_odd_right", none)) Pa) (tma : (Pa, ("_law_odd_right.<locals>.<lambda>" : Str)) ∈ TT0) (tua : ∀ p ∈ TT0, p.1 = Pa → p.2 = "_law_odd_right.<locals>.<lambda>")
    (TB : LamX.TabB base mg (He.codeOf K ("_law_right", none)) Pb) (tm : (Pb, Q1) ∈ TT0) (tu : ∀ p ∈ TT0, p.1 = Pb → p.2 = Q1) : FnG P w K mg base 15 f0 fd0 ["script"] (sp_law K TT0) := by
  have c__law_right := ok__law_right (P := P) (w := w) C o_BadArgument o_NotPossible own_mro own_ne TBa tma tua TB tm tu
  have c__law_dice := ok__law_dice (P := P) (w := w) C
  refine fnG_of F sc_law (fun vs H Q E h => ?_) (fun cdv A outer s H vs Q E gd hr h => ⟨_, PSs.nox
    (pss_cons (ps_for PassesOwn.never rfl (pi_range1 rfl (C.free 17) (pa_cons (pe_bi (cr_max2 rfl) (C.free 18) (by decide +kernel) (pa_cons pe_int (pa_cons (pe_bi (cr_min2 rfl) (C.free 26) (by decide +kernel) (pa_cons pe_int (pa_cons (pe_bi (k_len (K := K) rfl) (C.free 23) (by decide +kernel) (pa_cons (pv 0) pa_nil)) pa_nil))) pa_nil))) pa_nil)) (pg_name (i := 1) sc_law.nd rfl (Or.inl rfl))
      (pss_one (ps_if (pt_not (k_truth (K := K) rfl (pe_fG c__law_right gd hr (by decide) passL (pa_cons (pe_f c__law_dice hr (by first | decide | omega) passL (pa_cons (pv 0) (pa_cons (pv 1) pa_nil))) pa_nil)) (by intro _; rfl))) (pss_one (ps_ret pe_bl)) pss_nil)))
      (pss_one (ps_ret pe_bl))), ?_⟩)
  · obtain ⟨a, ns, L, rfl, _⟩ := h
    rfl
  · obtain ⟨a, ns, L, rfl, hn, w0, hs, k⟩ := h
    repeat walk_at "go"
    refine r_lenLI (hs _ w0) ?_
    repeat walk_at "go"
    obtain ⟨n, en⟩ : ∃ n : Nat, max 1 (min 4 (ns.length : Int)) = n := ⟨(max 1 (min 4 (ns.length : Int))).toNat, by omega⟩
    rw [en]
    have n4 : n ≤ 63 := by omega
    refine n_1 (by omega) ?_
    rw [Int.toNat_natCast]
    refine f_rng (fun i σ H' => ∃ x1 : Option V, σ = [some (.ref a), x1] ∧ Wd TT0 H' L) ⟨_, rfl, w0⟩ ?_ ?_
    · rintro i σ H1 hi ⟨x1, rfl, w1⟩
      rw [Int.zero_add]
      repeat walk_at "go"
      refine ⟨a, ns, _, rfl, hs _ w1, by omega, by omega, by omega, fun d H2 e2 f2 d2 => ?_⟩
      refine ⟨d, _, rfl, (w1.ex e2).cons (w1.fresh f2) (isDice.of d2), fun n' H3 l3 w3 => ?_⟩
      repeat walk_at "go"
      exact ⟨_, rfl, w3.tail⟩
    · rintro σ H1 ⟨x1, rfl, w1⟩
      repeat walk_at "go"
      exact k _
end
section
variable {w : World} {h : Heap} {K : PySem.W.Frag} {mg : Str → Option Value} {base : Heap}
abbrev PP : Program := PySem.Challenge.pw_promisedpost_k83_whole_mirrors
def TT (K : PySem.W.Frag) : List (Addr × Str) := [((He.cT K ("_law_odd_right", none)).2, "_law_odd_right.<locals>.<lambda>"), ((He.cT K ("_law_right", none)).2, "_law_right.<locals>.<lambda>")]
theorem ex_ini (K : PySem.W.Frag) (e : ex K = true) : ini.all (iniB PP K) = true ∧ (pd.all (prpB K) = true ∧ oc.all (insB K) = true) ∧ decide ((tf.map fun t => (He.cT K t).2).Nodup) = true := by
  unfold ex at e
  rw [Bool.and_eq_true, Bool.and_eq_true, Bool.and_eq_true] at e
  exact ⟨e.1.1, e.1.2, e.2⟩
theorem hex (K : PySem.W.Frag) (d : IniD) (e : ex K = true) (m : d ∈ ini) : iniB PP K d = true := List.all_eq_true.mp (ex_ini K e).1 d m
theorem hexP (K : PySem.W.Frag) (d : PrpD) (e : ex K = true) (m : d ∈ pd) : prpB K d = true := List.all_eq_true.mp (ex_ini K e).2.1.1 d m
theorem own_ok (K : PySem.W.Frag) (e : ex K = true) : ∀ x ∈ oc, OwnC K x := fun x m => insB_ok (List.all_eq_true.mp (ex_ini K e).2.1.2 x m)
theorem tt_nd (K : PySem.W.Frag) (e : ex K = true) : ((TT K).map Prod.fst).Nodup := of_decide_eq_true (ex_ini K e).2.2
theorem tt_mem (K : PySem.W.Frag) : ∀ q ∈ TT K, ∃ t ∈ tf, q.1 = (He.cT K t).2 := fun q hq => by
  unfold TT at hq
  simp only [List.mem_cons, List.not_mem_nil, or_false] at hq
  rcases hq with rfl | rfl
  · exact ⟨("_law_odd_right", none), List.mem_cons_self, rfl⟩
  · exact ⟨("_law_right", none), (List.mem_cons_of_mem _ List.mem_cons_self), rfl⟩
abbrev iBadArgument : IniD := ⟨"BadArgument", "name", defArgs (inn 2 0), defBody (inn 2 0), defScope (inn 2 0)⟩
theorem own_BadArgument (ci : SaysI fa fn [] tf ini ex w h K) (C : Ct fa fn K mg base) : Own PP w K mg base 1 "BadArgument" "name" :=
  own_of (d := iBadArgument) (ci.iniF hex 0) C.kin C.glob ⟨rfl, rfl, rfl, by decide +kernel, rfl, rfl, rfl, rfl, by decide⟩ rfl rfl rfl (by decide) (fun _ => rfl) (fun _ => rfl) (fun _ => rfl) (fun _ _ _ _ _ _ _ us hl => match us, hl with | [_, _], _ => rfl)
abbrev iNotPossible : IniD := ⟨"NotPossible", "word", defArgs (inn 3 0), defBody (inn 3 0), defScope (inn 3 0)⟩
theorem own_NotPossible (ci : SaysI fa fn [] tf ini ex w h K) (C : Ct fa fn K mg base) : Own PP w K mg base 1 "NotPossible" "word" :=
  own_of (d := iNotPossible) (ci.iniF hex 1) C.kin C.glob ⟨rfl, rfl, rfl, by decide +kernel, rfl, rfl, rfl, rfl, by decide⟩ rfl rfl rfl (by decide) (fun _ => rfl) (fun _ => rfl) (fun _ => rfl) (fun _ _ _ _ _ _ _ us hl => match us, hl with | [_, _], _ => rfl)

theorem law_ok (ci : SaysJ fa fn [] tf ini pd ex w h K) {f0 : Addr} {fd0 : FuncData} (F : FunD K "law" "law" (defArgs s_law) (defBody s_law) (defScope s_law) [] [] f0 fd0) (C : Cx0 K mg base) (TB : ∀ t ∈ tf, LamX.TabB base mg (He.cT K t).1 (He.cT K t).2) (tu : ∀ {P : Addr} {q : Str}, (P, q) ∈ TT K → ∀ p ∈ TT K, p.1 = P → p.2 = q) :
    FnG PP w K mg base 15 f0 fd0 ["script"] (sp_law K (TT K)) :=
  have o := C.own "Mirror" List.mem_cons_self
  have m1 : (((He.cT K ("_law_odd_right", none)).2, ("_law_odd_right.<locals>.<lambda>" : Str)) ∈ TT K) := List.mem_cons_self
  have m2 : (((He.cT K ("_law_right", none)).2, Q1) ∈ TT K) := List.mem_cons_of_mem _ List.mem_cons_self
  ok_law F C (own_BadArgument ci.i C.toCt) (own_NotPossible ci.i C.toCt) o.hm o.ne (TB ("_law_odd_right", none) List.mem_cons_self) m1 (tu m1) (TB ("_law_right", none) (List.mem_cons_of_mem _ List.mem_cons_self)) m2 (tu m2)
end
end K83

end

section
open PySem PySem.Spec PyProof.Rows PB
open L2
theorem K83.law_at {w : World} {h : Heap} {mg : Str → Option Value} {fa : Addr} (Y : K83.hk.says w h) (G : h.Ns mainGlobals mg) (hmg : mg ("law" : Str) = some (.ref fa)) : ∃ K : PySem.W.Frag, K.In h ∧ LawG PySem.Challenge.rw_promisedpost_k83_whole_mirrors w K 15 63 "script" mg fa h := by
  obtain ⟨K, KX, ci⟩ := Y
  have c : He.SaysD K83.fa K83.fn K := ci.i.x.t.d
  obtain ⟨fd, F⟩ := c.def_ 14 (d := K83.dd "law" 25) rfl
  have e := hmg.symm.trans (He.glo_ok KX G (c.fact 14 (f := .glo "law") rfl))
  cases e
  have b := L2.FunD.bindsA (ps := ["script"]) F fun _ _ _ _ _ _ us hl => match us, hl with | [_], _ => rfl
  have mm : ∀ p ∈ K83.tf.map (He.cT K), ∃ t ∈ K83.tf, He.cT K t = p := fun p hp => List.mem_map.mp hp
  have nd : ((K83.TT K).map Prod.fst).Nodup := K83.tt_nd K ci.i.x.more
  refine ⟨K, KX, fd, K83.tf.map (He.cT K), K83.sp_law K (K83.TT K), (fun p hp => by obtain ⟨t, ht, rfl⟩ := mm p hp; exact ci.i.x.empty _ ht), (fun p hp => by obtain ⟨t, ht, rfl⟩ := mm p hp; exact ci.i.x.out _ ht), (fun p hp => by obtain ⟨t, ht, rfl⟩ := mm p hp; exact PySem.W.codeHd_of_K KX (ci.i.x.hd _ ht)), fun s u => b s [u] rfl, fun H a ns hl _ ht hS => ?_,
    fun base h1 h2 h3 => ?_⟩
  · have tabs : LamX.Tabs (K83.TT K) H := fun q hq => by
      obtain ⟨t, ht', e⟩ := K83.tt_mem K q hq
      have := ht _ (List.mem_map_of_mem (f := He.cT K) ht')
      rw [← e] at this
      exact LamX.TabS.nil this
    obtain ⟨L, wL, hL⟩ := scr_of tabs hS
    exact ⟨a, ns, L, rfl, hl, wL, hL, fun _ => rfl⟩
  · exact K83.law_ok ci F ⟨⟨c, h1, h2⟩, fun i d hd => ci.prpF K83.hexP i hd, K83.own_ok K ci.i.x.more⟩ (fun t ht => h3 _ (List.mem_map_of_mem (f := He.cT K) ht)) (tab_u nd)
end
open PySem PySem.W PySem.Calls PyProof.Rows
theorem PySem.Challenge.cw_promisedpost_k83_whole_mirrors_holds : PySem.Challenge.rw_promisedpost_k83_whole_mirrors.Holds := by
  w_on; o_law
  refine HandSHeadRun.head_any (r := OpenLaw.row PySem.Challenge.rw_promisedpost_k83_whole_mirrors) (q := view (OpenLaw.row PySem.Challenge.rw_promisedpost_k83_whole_mirrors).prog [25]) (H := K83.hk) (ob := K83.ob) (M := 4000) (loose := K83.names) (d := HandSHeadRun.topDef (OpenLaw.row PySem.Challenge.rw_promisedpost_k83_whole_mirrors).prog 25) (kwd := []) K83.ob_eq
    (by kernel_rfl) (fun s => by kernel_rfl) K83.run (by kernel_rfl) (by kernel_rfl) (by kernel_rfl) (by rfl) (by first | assumption | decide +kernel) (by decide +kernel) ⟨rfl, rfl, rfl, rfl, rfl, by decide +kernel⟩ ?hw ?hc
  case hw => w_witness2
  case hc =>
    refine PB.walk_G (l := PySem.Challenge.rw_promisedpost_k83_whole_mirrors) (n := 63) (k := 15) (x := "script") rfl (by decide) (by kernel_rfl) ⟨rfl, by decide, by decide⟩ ?F
    intro w mg fa h Y G hmg0
    refine K83.law_at Y G ?_
    have e : (HandSHeadRun.topDef (OpenLaw.row PySem.Challenge.rw_promisedpost_k83_whole_mirrors).prog 25).name = ("law" : PySem.Str) := by kernel_rfl
    rw [← e]
    exact hmg0
