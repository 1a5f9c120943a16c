import PyProof.Rows.All
import Wide.All
import OpenK.AllK
import Wide.FinOn
import KE.KStateDown
import HandS.ForMost
import HandS.ForExc
import HandS.Words
import HandS.WordsExc
import HandS.Defaults
import HandS.Zip
import HandS.TupLe
import HandS.Deep
import HandS.Conv
import HandS.SortInts
import HandS.IsInst
import HandS.Flow
import HandS.Style
import HandS.Head0
import HandS.Head1
import HandS.Head2
import HandS.HeadHook4
import HandS.HeadWalk
import KE.DataCmp
import KE.GoesNew
import KE.KTupSum
import HandS.TupAny
import HandS.TupMul
import PyProof.TupleOfSeq
import KE.GoesMore
import KE.GoesEnum
import HandS.Walk
import KE.SortData
import HandS.EndTab
import HandS.Lambda
import PyProof.ReprRoads
import HandS.ExcInit
import HandS.ExcField
import KE.KExcSuper
import KE.KSuper
import HandS.TryOnly
import HandS.ExcIs
import KE.GoesZip
import KE.KDictZip
import KE.DataMinMax
import PyProof.StrOps2
import HandS.Codes
import Lean
import PySem.Challenge.RW_promisedpost_k42_logs
set_option Elab.async false
set_option linter.all false
set_option maxRecDepth 100000
set_option maxHeartbeats 0
/-! PB: readings in small steps (r_..), rules for any kind of operand, calls bundled. -/
namespace PB
open PySem PySem.Spec L2
open PyProof.Rows hiding St

/-! ### heaps -/
/-- all that stood stands -/
abbrev Ex (H H' : Hp) : Prop := ∀ a o, H a = some o → H' a = some o
theorem Ex.refl (H : Hp) : Ex H H := fun _ _ h => h
theorem Ex.trans {A B C : Hp} (a : Ex A B) (b : Ex B C) : Ex A C := fun x o h => b x o (a x o h)
theorem Ex.new {H : Hp} {p : Addr} {o : HO} (h : H p = none) : Ex H (upd H p o) := fun a u e => (upd_ne (ne_of_none e h)).trans e
theorem Ex.add {H H' : Hp} {p : Addr} {o : HO} (e : Ex H H') (h : H' p = none) : Ex H (upd H' p o) := e.trans (Ex.new h)
theorem Ex.free {H H' : Hp} (e : Ex H H') {p : Addr} (h : H' p = none) : H p = none := by
  cases q : H p with
  | none => rfl
  | some o =>
    have z := e p o q
    rw [h] at z
    cases z
/-- all that stood stands, but what stands at d -/
def ExB (d : Addr) (H H' : Hp) : Prop := ∀ a o, a ≠ d → H a = some o → H' a = some o
theorem ExB.refl (d : Addr) (H : Hp) : ExB d H H := fun _ _ _ h => h
theorem ExB.of {d : Addr} {H H' : Hp} (e : Ex H H') : ExB d H H' := fun a o _ h => e a o h
theorem ExB.trans {d : Addr} {A B C : Hp} (a : ExB d A B) (b : ExB d B C) : ExB d A C := fun x o n h => b x o n (a x o n h)
theorem ExB.put {d : Addr} {H : Hp} {o : HO} : ExB d H (upd H d o) := fun a u n e => (upd_ne n).trans e
theorem Ex.sqL {K : PySem.W.Frag} {H H' : Hp} {a : Addr} {xs : List V} (e : Ex H H') (h : SqL K H a xs) : SqL K H' a xs := Same.seq e h
theorem Ex.sqT {K : PySem.W.Frag} {H H' : Hp} {a : Addr} {xs : List V} (e : Ex H H') (h : SqT K H a xs) : SqT K H' a xs := by
  rcases h with (h | ⟨o, h⟩) | h
  · exact .inl (.inl (e _ _ h))
  · exact .inl (.inr ⟨o, e _ _ h⟩)
  · exact .inr h

/-! ### readings, step by step -/
section
variable {σ : St} {H : Hp} {Q : VK} {D : Ends} {ta tb te tc : TE} {tt tu : TT} {t u : TS} {x y v : V} {K : PySem.W.Frag}
theorem r_var {i : Nat} (h : σ[i]? = some (some v)) (q : Q v H) : tVar i σ H Q := ⟨v, h, q⟩
theorem r_c (q : Q v H) : tC v σ H Q := q
theorem r_op {r : R2} (h : ta σ H fun x H1 => tb σ H1 fun y H2 => r x y H2 Q) : tOp r ta tb σ H Q := h
theorem r_un {r : V → Hp → VK → Prop} (h : ta σ H fun x H1 => r x H1 Q) : tUn r ta σ H Q := h
theorem r_U {g : Int → V} {i : Int} (q : Q (g i) H) : rU g (.int i) H Q := ⟨i, rfl, q⟩
theorem r_I0 {g : Int → Int → V} {i j : Int} (q : Q (g i j) H) : rI0 g (.int i) (.int j) H Q := ⟨i, j, rfl, rfl, q⟩
theorem r_I {C : Int → Int → Prop} {g : Int → Int → V} {i j : Int} (c : C i j) (q : Q (g i j) H) : rI C g (.int i) (.int j) H Q := ⟨i, j, rfl, rfl, c, q⟩
theorem r_test {Q : Bool → Hp → Prop} (h : te σ H fun x H1 => ∃ k, x = .bl k ∧ Q k H1) : tTest te σ H Q := h
theorem r_B {Q : Bool → Hp → Prop} (h : te σ H fun x H1 => ∃ k, x = .bl k ∧ Q k H1) : tB te σ H Q := h
theorem r_bl {P : Bool → Prop} {b : Bool} (h : P b) : ∃ k, V.bl b = V.bl k ∧ P k := ⟨b, rfl, h⟩
theorem r_not {Q : Bool → Hp → Prop} (h : tt σ H fun c H1 => Q (!c) H1) : tNot tt σ H Q := h
theorem r_and {Q : Bool → Hp → Prop} (h : tt σ H fun c H1 => if c = true then tu σ H1 Q else Q false H1) : tAnd tt tu σ H Q := h
theorem r_or {Q : Bool → Hp → Prop} (h : tt σ H fun c H1 => if c = true then Q true H1 else tu σ H1 Q) : tOr tt tu σ H Q := h
theorem r_andV (h : ta σ H fun x H1 => ∃ c, x = .bl c ∧ if c = true then tb σ H1 Q else Q (.bl false) H1) : tAndV ta tb σ H Q := h
theorem r_orV (h : ta σ H fun x H1 => ∃ c, x = .bl c ∧ if c = true then Q (.bl true) H1 else tb σ H1 Q) : tOrV ta tb σ H Q := h
theorem r_notV (h : ta σ H fun x H1 => ∃ c, x = .bl c ∧ Q (.bl (!c)) H1) : tNotV ta σ H Q := h
theorem r_if (h : tt σ H fun c H1 => if c = true then ta σ H1 Q else tb σ H1 Q) : tIf tt ta tb σ H Q := h
theorem r_chain {r r' : R2} (h : ta σ H fun x H1 => tb σ H1 fun y H2 => r x y H2 fun z H3 => ∃ k, z = .bl k ∧ (if k = true then tc σ H3 fun w' H4 => r' y w' H4 Q else Q (.bl false) H3)) : tChain r r' ta tb tc σ H Q := h
theorem r_T {A B : Prop} {b : Bool} (e : b = true) (h : A) : if b = true then A else B := by
  rw [if_pos e]; exact h
theorem r_F {A B : Prop} {b : Bool} (e : b = false) (h : B) : if b = true then A else B := by
  rw [if_neg (by rw [e]; decide)]; exact h
theorem r_D {A B p : Prop} [Decidable p] (h1 : p → A) (h2 : ¬ p → B) : if decide p = true then A else B := by
  by_cases c : p
  · exact r_T (decide_eq_true c) (h1 c)
  · exact r_F (decide_eq_false c) (h2 c)
theorem r_ND {A B p : Prop} [Decidable p] (h1 : ¬ p → A) (h2 : p → B) : if (!decide p) = true then A else B := by
  by_cases c : p
  · exact r_F (by rw [decide_eq_true c]; rfl) (h2 c)
  · exact r_T (by rw [decide_eq_false c]; rfl) (h1 c)
theorem r_C {A B : Prop} {b : Bool} (h1 : b = true → A) (h2 : b = false → B) : if b = true then A else B := by
  cases b with
  | true => exact r_T rfl (h1 rfl)
  | false => exact r_F rfl (h2 rfl)
theorem r_truB {P : Bool → Prop} {b : Bool} (h : P b) : ∃ k, TruV K (.bl b) H k ∧ P k := ⟨b, rfl, h⟩
theorem r_eq (s : scal x y = true) (q : Q (.bl (decide (x = y))) H) : rEq x y H Q := ⟨s, q⟩
theorem r_ne (s : scal x y = true) (q : Q (.bl (!decide (x = y))) H) : rNe x y H Q := ⟨s, q⟩
/-! statements -/
theorem r_seq (h : t { D with nx := u D } σ H) : tSeq t u D σ H := h
theorem r_next (h : D.nx σ H) : tNext D σ H := h
theorem r_brk (h : D.bk σ H) : tBreak D σ H := h
theorem r_cont (h : D.ct σ H) : tCont D σ H := h
theorem r_ret (h : te σ H D.rt) : tRet te D σ H := h
theorem r_drop (h : te σ H fun _ H1 => D.nx σ H1) : tDrop te D σ H := h
theorem r_set {i : Nat} (h : te σ H fun v H1 => D.nx (σ.set i (some v)) H1) : tAsg te (gName i) D σ H := h
theorem r_asg {g : TG} (h : te σ H fun x H1 => g x σ H1 D.nx) : tAsg te g D σ H := h
theorem r_gname {i : Nat} {Q : St → Hp → Prop} (h : Q (σ.set i (some v)) H) : gName i v σ H Q := h
theorem r_gtup {n : Nat} {tg : TGs} {a : Addr} {xs : List V} {Q : St → Hp → Prop} (ha : SqT K H a xs) (hn : xs.length = n) (h : tg xs σ H Q) : gTup K n tg (.ref a) σ H Q := ⟨a, xs, rfl, ha, hn, h⟩
theorem r_gcons {g : TG} {tg : TGs} {vs : List V} {Q : St → Hp → Prop} (h : g v σ H fun σ' H' => tg vs σ' H' Q) : gCons g tg (v :: vs) σ H Q := ⟨v, vs, rfl, h⟩
theorem r_gnil {Q : St → Hp → Prop} (h : Q σ H) : gNil [] σ H Q := ⟨rfl, h⟩
theorem r_ifS (h : tt σ H fun b H1 => if b = true then t D σ H1 else u D σ H1) : tIfS tt t u D σ H := h
theorem r_aug {i : Nat} {ti : TIp} (h : σ[i]? = some (some x)) (q : te σ H fun y H1 => ti x y H1 fun z H2 => D.nx (σ.set i (some z)) H2) : tAug i te ti D σ H := ⟨x, h, q⟩
theorem r_ipI {f : Int → Int → Int} {i j : Int} (q : Q (.int (f i j)) H) : ipI f (.int i) (.int j) H Q := ⟨i, j, rfl, rfl, q⟩
/-! arguments, displays, calls -/
theorem r_nil {Q : List V → Hp → Prop} (q : Q [] H) : tNil σ H Q := q
theorem r_cons {tr : TA} {Q : List V → Hp → Prop} (h : ta σ H fun x H1 => tr σ H1 fun xs H2 => Q (x :: xs) H2) : tCons ta tr σ H Q := h
theorem r_tup {tr : TA} (h : tr σ H fun xs H1 => xs.length ≤ sizeLine ∧ ∀ p, H1 p = none → Q (.ref p) (upd H1 p (.tup xs))) : tTup tr σ H Q := h
theorem r_lst {tr : TA} (h : tr σ H fun xs H1 => xs.length ≤ sizeLine ∧ ∀ p, H1 p = none → Q (.ref p) (upd H1 p (.lst xs))) : tLst tr σ H Q := h
theorem r_call {sp : Sp} {E : XK} {tr : TA} (h : tr σ H fun vs H1 => sp vs H1 Q E) : tCall sp [] E tr σ H Q := by
  have e : (fun (vs : List V) (H1 : Hp) => sp (vs ++ []) H1 Q E) = fun vs H1 => sp vs H1 Q E := by
    funext vs H1
    rw [List.append_nil]
  show tr σ H (fun (vs : List V) (H1 : Hp) => sp (vs ++ []) H1 Q E)
  rw [e]
  exact h
theorem r_callB {r : List V → Hp → VK → Prop} {tr : TA} (h : tr σ H fun vs H1 => r vs H1 Q) : tCB r tr σ H Q := h
theorem r_fld {f : Str} (h : ta σ H fun x H1 => ∃ a C dx fs v, x = .ref a ∧ H1 a = some (.ins C dx fs) ∧ Cls K C ∧ NoAttr K C f ∧ fs.lookup f = some v ∧ Q v H1) : tFld K ta f σ H Q := h
end

/-! ### kinds of values -/
/-- the types that may be asked of -/
def tyNames : List String := ["NoneType", "bool", "int", "str", "list", "tuple", "dict"]
def IsTy (K : PySem.W.Frag) (H : Hp) (v : V) (T : String) : Prop := TyX K H v (.type T) ∧ T ∈ tyNames
section
variable {K : PySem.W.Frag} {H H' : Hp} {Q : VK} {v : V} {T : String} {a : Addr}
theorem IsTy.non : IsTy K H .non "NoneType" := ⟨.base .non, by decide⟩
theorem IsTy.bl (b : Bool) : IsTy K H (.bl b) "bool" := ⟨.base (.bl b), by decide⟩
theorem IsTy.int (i : Int) : IsTy K H (.int i) "int" := ⟨.base (.int i), by decide⟩
theorem IsTy.str (x : Str) : IsTy K H (.str x) "str" := ⟨.base (.str x), by decide⟩
theorem IsTy.lst {xs : List V} (h : H a = some (.lst xs)) : IsTy K H (.ref a) "list" := ⟨.base (.lst h), by decide⟩
theorem IsTy.tup {xs : List V} (h : H a = some (.tup xs)) : IsTy K H (.ref a) "tuple" := ⟨.base (.tup h), by decide⟩
theorem IsTy.dK {kvs : List (Key × V)} (h : H a = some (.dK kvs)) : IsTy K H (.ref a) "dict" := ⟨.base (.dK h), by decide⟩
theorem IsTy.sqT {xs : List V} (h : SqT K H a xs) : IsTy K H (.ref a) "tuple" := by
  rcases h with (h | ⟨o, h⟩) | ⟨o, its, n, h, c, _⟩
  · exact .tup h
  · exact ⟨.fTuple h, by decide⟩
  · exact ⟨.kTuple h c, by decide⟩
def isIntV : V → Bool
  | .int _ => true
  | _ => false
def isBlV : V → Bool
  | .bl _ => true
  | _ => false
def isStrV : V → Bool
  | .str _ => true
  | _ => false
theorem r_isi {c : String} {b : Bool} (ty : IsTy K H v T) (e : kitB T c = some b) (q : Q (.bl b) H) : rIsi K [v, .ty c] H Q :=
  ⟨v, .ty c, .type T, .type c, b, rfl, .ty c, ty.1, kit_ty e, q⟩
theorem IsTy.cases (h : IsTy K H v T) : (v = .non ∧ T = "NoneType") ∨ (∃ b, v = .bl b ∧ T = "bool") ∨ (∃ i, v = .int i ∧ T = "int") ∨ (∃ x, v = .str x ∧ T = "str") ∨ (∃ a, v = .ref a ∧ T ∈ ["list", "tuple", "dict"]) := by
  obtain ⟨h, m⟩ := h
  generalize ht : Value.type T = t at h
  cases h with
  | base b =>
    cases b with
    | non => cases ht; exact .inl ⟨rfl, rfl⟩
    | bl b => cases ht; exact .inr (.inl ⟨b, rfl, rfl⟩)
    | int i => cases ht; exact .inr (.inr (.inl ⟨i, rfl, rfl⟩))
    | str x => cases ht; exact .inr (.inr (.inr (.inl ⟨x, rfl, rfl⟩)))
    | flt x => cases ht; exact absurd m (by decide)
    | lst e => cases ht; exact .inr (.inr (.inr (.inr ⟨_, rfl, by decide⟩)))
    | frz e => cases ht; exact .inr (.inr (.inr (.inr ⟨_, rfl, by decide⟩)))
    | tup e => cases ht; exact .inr (.inr (.inr (.inr ⟨_, rfl, by decide⟩)))
    | dK e => cases ht; exact .inr (.inr (.inr (.inr ⟨_, rfl, by decide⟩)))
    | dT e => cases ht; exact .inr (.inr (.inr (.inr ⟨_, rfl, by decide⟩)))
    | ins => cases ht
  | byt b => cases ht; exact absurd m (by decide)
  | set e => cases ht; exact absurd m (by decide)
  | kList e c => cases ht; exact .inr (.inr (.inr (.inr ⟨_, rfl, by decide⟩)))
  | kTuple e c => cases ht; exact .inr (.inr (.inr (.inr ⟨_, rfl, by decide⟩)))
  | kDict e c => cases ht; exact .inr (.inr (.inr (.inr ⟨_, rfl, by decide⟩)))
  | fTuple e => cases ht; exact .inr (.inr (.inr (.inr ⟨_, rfl, by decide⟩)))
  | fDict e => cases ht; exact .inr (.inr (.inr (.inr ⟨_, rfl, by decide⟩)))
end

/-! ### a def, by its name -/
/-- the def of this name keeps this promise -/
def Cal (P : Program) (w : World) (K : PySem.W.Frag) (mg : Str → Option Value) (base : Heap) (k : Nat) (x : Str) (ps : List Str) (sp : Sp) : Prop :=
  ∃ f fd, mg x = some (.ref f) ∧ PySem.W.keepIn K (.ref f) = true ∧ FnOk P w K mg base (L2.CX P w) k f fd ps sp ∧ Binds K fd ps []
theorem pe_f {X : Cx} {k j : Nat} {x : Str} {ps : List Str} {sp : Sp} {E : XK} {p pos : Pos} {e : Expr} {es : List Expr} {t : TA} (c : Cal X.prog X.w X.K X.mg X.base k x ps sp) (hr : Room j X.A) (hk : k ≤ j) (hx : Passes (L2.CX X.prog X.w) X E) (ha : PA X (e :: es) t)
    (hg : Gl X x := by rfl) (hdb : (x == ("__debug__" : Str)) = false := by decide) (he : starEach (e :: es) X.env = (false, eval e X.env) :: starEach es X.env := by rfl) (hpl : (backTo pos (starEach es X.env)).any (·.1) = false := by rfl) :
    PE X (.Call (.Name x p) (e :: es) [] pos) (tCall sp [] E t) := by
  obtain ⟨f, fd, h1, h2, F, b⟩ := c
  exact pe_call F (hr.mono hk) hg h1 h2 b .nil hx ha hdb he hpl
/-- a built-in type by its name, as a value -/
theorem pe_ty {X : Cx} (n : String) {x : Str} {pos : Pos} (hm : X.mg x = none) (hv : bootBuiltins x = some (.type n) := by decide +kernel) (hg : Gl X x := by rfl) (hn : x ≠ "__name__" := by decide) (hd : (x == ("__debug__" : Str)) = false := by decide) : PE X (.Name x pos) (tC (.ty n)) :=
  pe_bltn hg hm hv rfl hn hd
/-- a module's int -/
theorem pe_gi {X : Cx} {x : Str} {i : Int} {pos : Pos} (hm : ∃ t, X.mg x = some (.int i t)) (hg : Gl X x := by rfl) (hd : (x == ("__debug__" : Str)) = false := by decide) : PE X (.Name x pos) (tC (.int i)) := by
  obtain ⟨t, h⟩ := hm
  exact pe_glob hg h ⟨t, rfl⟩ hd
/-- a built-in function called -/
theorem pe_bi {X : Cx} {x : Str} {id : String} {r : List V → Hp → VK → Prop} {p pos : Pos} {e : Expr} {es : List Expr} {t : TA} (hc : CallR X (.builtin id) r) (hm : X.mg x = none) (hv : bootBuiltins x = some (.builtin id)) (ha : PA X (e :: es) t) (hg : Gl X x := by rfl)
    (hn : x ≠ "__name__" := by decide) (hdb : (x == ("__debug__" : Str)) = false := by decide) (he : starEach (e :: es) X.env = (false, eval e X.env) :: starEach es X.env := by rfl) (hpl : (backTo pos (starEach es X.env)).any (·.1) = false := by rfl) :
    PE X (.Call (.Name x p) (e :: es) [] pos) (tCB r t) := pe_callB hc hg hm hv ha hn hdb he hpl
/-- a built-in class called -/
theorem pe_bt {X : Cx} {x : Str} {T : String} {r : List V → Hp → VK → Prop} {p pos : Pos} {e : Expr} {es : List Expr} {t : TA} (hc : CallR X (.type T) r) (hm : X.mg x = none) (hv : bootBuiltins x = some (.type T)) (ha : PA X (e :: es) t) (hg : Gl X x := by rfl)
    (hn : x ≠ "__name__" := by decide) (hdb : (x == ("__debug__" : Str)) = false := by decide) (he : starEach (e :: es) X.env = (false, eval e X.env) :: starEach es X.env := by rfl) (hpl : (backTo pos (starEach es X.env)).any (·.1) = false := by rfl) :
    PE X (.Call (.Name x p) (e :: es) [] pos) (tCB r t) := pe_callTy hc hg hm hv ha hn hdb he hpl
/-- what the top has left -/
structure Ct (fa : List He.Fa) (fn : List He.DefD) (K : PySem.W.Frag) (mg : Str → Option Value) (base : Heap) : Prop where
  says : He.SaysD fa fn K
  kin : K.In base
  glob : base.Ns mainGlobals mg
section
variable {P : Program} {w : World} {fa : List He.Fa} {fn : List He.DefD} {K : PySem.W.Frag} {mg : Str → Option Value} {base : Heap}
theorem Ct.free (C : Ct fa fn K mg base) (i : Nat) {x : Str} (h : fa[i]? = some (.free x) := by rfl) : mg x = none := He.free_ok C.kin C.glob (C.says.fact i h)
theorem Ct.int (C : Ct fa fn K mg base) (i : Nat) {x : Str} {n : Int} (h : fa[i]? = some (.int x n) := by rfl) : ∃ t, mg x = some (.int n t) := He.int_ok C.kin C.glob (C.says.fact i h)
theorem Ct.cal (C : Ct fa fn K mg base) (i j : Nat) {x : Str} {a : Arguments} {b : List Stmt} {sc : Scope} (hd : fn[i]? = some ⟨(x, none), x, x, a, b, sc, [], []⟩) (hj : fa[j]? = some (.glo x)) {N ps : List Str} {k : Nat} {sp : Sp} (S : FnScope N ps sc)
    (hb : ∀ (kV doc pm : Value) (an : Option Addr) (cdv ct : Value) (us : List Value), us.length = ps.length → bindArgs (PySem.W.fnOf x x a b sc .none kV doc pm an cdv ct) ⟨us, []⟩ = pure (ps.zip us))
    (len : ∀ vs H Q E, sp vs H Q E → vs.length = ps.length)
    (hbody : ∀ (f : Addr) (cdv : Value) (A : Around) (outer : List Env) (s : Shared) (H : Hp) (vs : List V) (Q : VK) (E : XK), Room k (A.deeper (envOfC x sc s.heap.objs.size f cdv)) → sp vs H Q E →
      ∃ t, PSs (cxOf (L2.CX P w) P w K mg base N x sc f cdv A outer s H E) b t ∧ t { nx := fun _ H' => Q .non H', rt := Q } (start N vs) H) : Cal P w K mg base (k + 1) x ps sp := by
  obtain ⟨fd, F⟩ := C.says.def_ i hd
  exact ⟨_, fd, He.glo_ok C.kin C.glob (C.says.fact j hj), F.kp, FunD.ok F S len fun cdv A outer s H vs Q E hr h => hbody _ cdv A outer s H vs Q E hr h, FunD.bindsN F hb⟩
end
end PB

/-! PR: more rules by values: any kind of operand, tuples where the layer has lists. -/
namespace PB
open PySem PySem.Spec L2
open PyProof.Rows hiding St
section
variable {X : Cx}
/-! ### comparisons -/
def rCmpD (K : PySem.W.Frag) (f : PyData → PyData → Bool) : R2 := fun x y H Q => ∃ d e, Dp K H x d ∧ Dp K H y e ∧ PySem.W.alike d e = true ∧ d ≠ .none ∧ min d.depth e.depth ≤ 60 ∧ Q (.bl (f d e)) H
theorem cmpD {op : CmpOp} {f : PyData → PyData → Bool} (hu : X.A.units + 64 < cLine)
    (rule : ∀ {s : Shared} {a b : Value} {da db : PyData} {as bs : List Addr} {Q : Value → Shared → Prop}, Reads s.heap a da as → Reads s.heap b db bs → PySem.W.alike da db = true → da ≠ .none → X.A.units + min da.depth db.depth < cLine → Q (.bool (f da db)) s → wpAny (model X.prog X.w) X.A (compareOp op a b) Q X.xe s) :
    OpR X (compareOp op) (rCmpD X.K f) := by
  intro pins s σ H x y v u Q I rx ry h
  obtain ⟨d, e, hd, he, al, nn, dp, q⟩ := h
  obtain ⟨as, r1⟩ := Dp.reads I d x v hd rx
  obtain ⟨bs, r2⟩ := Dp.reads I e y u he ry
  exact rule r1 r2 al nn (by omega) ⟨.bl _, H, I, rfl, q⟩
def rCmpA (K : PySem.W.Frag) (g : Int → Int → Bool) (f : PyData → PyData → Bool) : R2 := fun x y H Q => rI0 (fun i j => .bl (g i j)) x y H Q ∨ rCmpD K f x y H Q
theorem op_ltA' (hu : X.A.units + 64 < cLine) : OpR X (compareOp .Lt) (rCmpA X.K (fun i j => decide (i < j)) fun d e => PySem.W.dataLt d e) := OpR.or op_lt (cmpD hu PySem.W.lt_data)
theorem op_gtA' (hu : X.A.units + 64 < cLine) : OpR X (compareOp .Gt) (rCmpA X.K (fun i j => decide (j < i)) fun d e => PySem.W.dataLt e d) := OpR.or op_gt (cmpD hu PySem.W.gt_data)
theorem op_leA' (hu : X.A.units + 64 < cLine) : OpR X (compareOp .LtE) (rCmpA X.K (fun i j => decide (i ≤ j)) fun d e => !PySem.W.dataLt e d) := OpR.or op_le (cmpD hu PySem.W.le_data)
theorem op_geA' (hu : X.A.units + 64 < cLine) : OpR X (compareOp .GtE) (rCmpA X.K (fun i j => decide (j ≤ i)) fun d e => !PySem.W.dataLt d e) := OpR.or op_ge (cmpD hu PySem.W.ge_data)
/-- room for 64 units -/
theorem un64 {k : Nat} {A : Around} (hr : Room k A) : A.units + 64 < cLine := by
  have := hr.un
  omega
theorem op_ltA {k : Nat} (hr : Room k X.A) : OpR X (compareOp .Lt) (rCmpA X.K (fun i j => decide (i < j)) fun d e => PySem.W.dataLt d e) := op_ltA' (un64 hr)
theorem op_gtA {k : Nat} (hr : Room k X.A) : OpR X (compareOp .Gt) (rCmpA X.K (fun i j => decide (j < i)) fun d e => PySem.W.dataLt e d) := op_gtA' (un64 hr)
theorem op_leA {k : Nat} (hr : Room k X.A) : OpR X (compareOp .LtE) (rCmpA X.K (fun i j => decide (i ≤ j)) fun d e => !PySem.W.dataLt e d) := op_leA' (un64 hr)
theorem op_geA {k : Nat} (hr : Room k X.A) : OpR X (compareOp .GtE) (rCmpA X.K (fun i j => decide (j ≤ i)) fun d e => !PySem.W.dataLt d e) := op_geA' (un64 hr)
def rEqA (K : PySem.W.Frag) : R2 := fun x y H Q => rEq x y H Q ∨ rEqD K x y H Q
def rNeA (K : PySem.W.Frag) : R2 := fun x y H Q => rNe x y H Q ∨ rNeD K x y H Q
theorem op_eqA {k : Nat} (hr : Room k X.A) : OpR X (compareOp .Eq) (rEqA X.K) := OpR.or op_eq (op_eqD (un64 hr))
theorem op_neA {k : Nat} (hr : Room k X.A) : OpR X (compareOp .NotEq) (rNeA X.K) := OpR.or op_ne (op_neD (un64 hr))
def rInA (K : PySem.W.Frag) : R2 := fun x y H Q => rIn K false x y H Q ∨ rInD K x y H Q
def rNinA (K : PySem.W.Frag) : R2 := fun x y H Q => rIn K true x y H Q ∨ rNotInD K x y H Q
theorem op_inA {k : Nat} (hr : Room k X.A) : OpR X (compareOp .In) (rInA X.K) := OpR.or op_in_seq (op_inD (by have := hr.un; omega))
theorem op_ninA {k : Nat} (hr : Room k X.A) : OpR X (compareOp .NotIn) (rNinA X.K) := OpR.or op_notIn_seq (op_notInD (by have := hr.un; omega))

/-! ### sums, joins -/
def rAddA (K : PySem.W.Frag) : R2 := fun x y H Q => rI0 (fun i j => .int (i + j)) x y H Q ∨ rCat x y H Q ∨ rCatA K x y H Q ∨ ∃ i j, x = .str i ∧ y = .str j ∧ i.length + j.length ≤ sizeLine ∧ Q (.str (i ++ j)) H
theorem op_addA : OpR X (binaryOp .Add) (rAddA X.K) := OpR.or op_add (OpR.or op_cat (OpR.or op_catA op_add_str))
def rMulA (K : PySem.W.Frag) : R2 := fun x y H Q => rI CMul (fun i j => .int (i * j)) x y H Q ∨ rRep x y H Q ∨ rRepT K x y H Q
theorem op_mulA : OpR X (binaryOp .Mult) (rMulA X.K) := OpR.or op_mul (OpR.or op_rep op_repT)

/-! ### built-in functions on lists and tuples -/
def rSumT (K : PySem.W.Frag) : List V → Hp → VK → Prop := fun vs H Q => ∃ (a : Addr) (ns : List Int), vs = [V.ref a] ∧ SqT K H a (ns.map V.int) ∧ Q (.int ns.sum) H
theorem cr_sumT (hc : X.calm = true) : CallR X (.builtin "sum") (rSumT X.K) := by
  intro pins s σ H vs us Q I r h
  obtain ⟨a, ns, rfl, ht, q⟩ := h
  obtain ⟨its, rv, ⟨o, e, c, n, d⟩, _⟩ := I.tuple ht
  rw [Vals.ref1 r]
  have hi := rv.ints
  obtain ⟨xs, ex⟩ := hi.allInts.items
  have hn : numsOf (intItems xs).toList = ns := by rw [← ex]; exact hi.numsOf
  rw [nums_intItems] at hn
  have hT : s.heap.IsTuple a (intItems xs) := by rw [← ex]; exact ⟨o, e, c, n, d⟩
  refine PySem.W.ktm_sumG (I.ok.hd hc) hT fun h' tk t' hk => ?_
  rw [preSum_eq, List.take_of_length_le (by simp), hn]
  exact ⟨.int ns.sum, H, I.kept hk, ⟨t', rfl⟩, q⟩
def rSumA (K : PySem.W.Frag) : List V → Hp → VK → Prop := fun vs H Q => rSum K vs H Q ∨ rSumT K vs H Q
theorem cr_sumA (hc : X.calm = true) : CallR X (.builtin "sum") (rSumA X.K) := CallR.or (cr_sum hc) (cr_sumT hc)
def rSortedTI (K : PySem.W.Frag) : List V → Hp → VK → Prop := fun vs H Q => ∃ (a : Addr) (ns : List Int), vs = [V.ref a] ∧ SqT K H a (ns.map V.int) ∧
  ∀ (ns' : List Int) (p : Addr), ns'.Perm ns → ns'.Pairwise (· ≤ ·) → H p = none → Q (.ref p) (upd H p (.lst (ns'.map V.int)))
theorem cr_sortedTI : CallR X (.builtin "sorted") (rSortedTI X.K) := by
  intro pins s σ H vs us Q I r h
  obtain ⟨a, ns, rfl, ht, q⟩ := h
  obtain ⟨its, rv, ⟨o, e, c, n, d⟩, hz⟩ := I.tuple ht
  have hlen := rv.length
  rw [Vals.ref1 r]
  have hi := rv.ints
  refine Calls.call_function_entry PyProof.Rows.kind_sorted PyProof.Rows.plain_sorted PyProof.Rows.entry_sorted (PyProof.Rows.args_sorted1 _) ?_
  unfold Builtin.«sorted»
  refine wpAny_bind (wpAny_pure ?_)
  refine wpAny_bind (wpAny_collect_seq a (.inr rfl) e c d (fun h1 k1 => ?_) (by rw [List.size_toArray, ← hlen]; exact hz))
  refine wpAny_bind (wpAny_newList ?_ (by show its.length ≤ sizeLine; rw [← hlen]; exact hz))
  have e1 : (h1.push { cls := .type "list", data := .seq its.toArray }).get? h1.objs.size = some (PyProof.Rows.seqObj "list" its.toArray 0) := Heap.get?_push_size _ rfl
  refine wpAny_bind (wpAny_holding (wpAny_call_entry PyProof.Rows.slot_list_sort ⟨_, e1, rfl⟩ PyProof.Rows.entry_list_sort
    (SrtO.list_sort_ord SrtO.swo_int e1 (by rw [← hlen]; exact hz) (fun h2 => SrtO.ints_sortable hi h2) fun out g1 g2 => ⟨_, rfl, ?_⟩) (PyProof.Rows.args_list_sort _)))
  obtain ⟨k3, k4, k5⟩ := SrtO.ints_out hi g1 g2
  obtain ⟨ep, he⟩ := PyProof.Rows.sortedHeap_at (vs := its) (out := out.toArray) e1
  have I1 : Inv X pins σ H { s with heap := h1 } := I.kept (t' := s.toks) k1
  have old : ∀ b u, h1.get? b = some u → (PyProof.Rows.sortedHeap (h1.push { cls := .type "list", data := .seq its.toArray }) h1.objs.size its out.toArray).get? b = some u := fun b u eb => by
    have lt := Heap.lt_size eb
    rw [PyProof.Rows.sortedHeap_old (Nat.ne_of_lt lt) (by rw [Heap.size_push]; exact Nat.lt_succ_of_lt lt)]
    exact Heap.get?_push_of_some _ eb
  have hl2 : ((out.map SrtO.iv).map V.int).length ≤ sizeLine := by
    rw [List.length_map, k4.length_eq]
    rw [List.length_map] at hz
    exact hz
  exact wpAny_pure ⟨_, rfl, ⟨.ref _, upd H h1.objs.size (.lst ((out.map SrtO.iv).map V.int)), I1.laid (t' := s.toks) old (Nat.le_refl _) ⟨hl2, out, ep, vals_of_ints k3, he⟩, rfl, q _ _ k4 k5 (I1.hok.fresh (Nat.le_refl _))⟩⟩
/-! ### targets of two, of three names -/
theorem pg_two {i j kk : Nat} {x y : Str} {px py pos : Pos} (hc : X.calm = true) (hN : X.N.Nodup) (hi : X.N[i]? = some x) (hj : X.N[j]? = some y) (lx : Loc X.env.scope x) (ly : Loc X.env.scope y)
    (fx : X.fn x = true ∨ X.env.scope.names.lookup x = some .local) (fy : X.fn y = true ∨ X.env.scope.names.lookup y = some .local) : PG X (.Tuple [.Name x px, .Name y py] kk pos) (gTup X.K 2 (gCons (gName i) (gCons (gName j) gNil))) :=
  pg_tup hc (pgs_cons (pg_name hN hi lx fx) (pgs_cons (pg_name hN hj ly fy) pgs_nil))
theorem pg_three {i j l kk : Nat} {x y z : Str} {px py pz pos : Pos} (hc : X.calm = true) (hN : X.N.Nodup) (hi : X.N[i]? = some x) (hj : X.N[j]? = some y) (hl : X.N[l]? = some z) (lx : Loc X.env.scope x) (ly : Loc X.env.scope y) (lz : Loc X.env.scope z)
    (fx : X.fn x = true ∨ X.env.scope.names.lookup x = some .local) (fy : X.fn y = true ∨ X.env.scope.names.lookup y = some .local) (fz : X.fn z = true ∨ X.env.scope.names.lookup z = some .local) : PG X (.Tuple [.Name x px, .Name y py, .Name z pz] kk pos) (gTup X.K 3 (gCons (gName i) (gCons (gName j) (gCons (gName l) gNil)))) :=
  pg_tup hc (pgs_cons (pg_name hN hi lx fx) (pgs_cons (pg_name hN hj ly fy) (pgs_cons (pg_name hN hl lz fz) pgs_nil)))
/-! ### built-in calls under names of their own -/
def rLenA (K : PySem.W.Frag) : List V → Hp → VK → Prop := fun xs H Q => ∃ x n, xs = [x] ∧ LenV K x H n ∧ Q (.int n) H
theorem cr_len : CallR X (.builtin "len") (rLenA X.K) := call_len
def rMax2A : List V → Hp → VK → Prop := fun xs H Q => ∃ i j, xs = [.int i, .int j] ∧ Q (.int (if j > i then j else i)) H
theorem cr_max2 (hc : X.calm = true) : CallR X (.builtin "max") rMax2A := call_max2 hc
def rMin2A : List V → Hp → VK → Prop := fun xs H Q => ∃ i j, xs = [.int i, .int j] ∧ Q (.int (if j < i then j else i)) H
theorem cr_min2 (hc : X.calm = true) : CallR X (.builtin "min") rMin2A := call_min2 hc
def rAbsA : List V → Hp → VK → Prop := fun xs H Q => ∃ i, xs = [.int i] ∧ Q (.int (if i < 0 then -i else i)) H
theorem cr_abs : CallR X (.builtin "abs") rAbsA := call_abs
def rInt1A : List V → Hp → VK → Prop := fun xs H Q => (∃ i, xs = [.int i] ∧ Q (.int i) H) ∨ ∃ k, xs = [.bl k] ∧ Q (.int (if k then 1 else 0)) H
theorem cr_int1 : CallR X (.type "int") rInt1A := call_int1
def rTupA (K : PySem.W.Frag) : List V → Hp → VK → Prop := fun xs H Q => ∃ p ys, xs = [.ref p] ∧ ((SqL K H p ys ∧ ∀ l, H l = none → Q (.ref l) (upd H l (.tup ys))) ∨ (SqT K H p ys ∧ Q (.ref p) H))
theorem cr_tuple : CallR X (.type "tuple") (rTupA X.K) := call_tuple_of
def rListA (K : PySem.W.Frag) : List V → Hp → VK → Prop := fun xs H Q => ∃ p ys, xs = [.ref p] ∧ (SqL K H p ys ∨ SqT K H p ys) ∧ ∀ l, H l = none → Q (.ref l) (upd H l (.lst ys))
theorem cr_list : CallR X (.type "list") (rListA X.K) := call_list_of
/-! ### items and cuts -/
def rIxA (K : PySem.W.Frag) : R2 := fun x y H Q => rIxL K x y H Q ∨ rIxT K x y H Q ∨ rIxS x y H Q
theorem ix_A : IxR X (rIxA X.K) := IxR.or ix_list (IxR.or ix_tup ix_str)
def rSortedA (K : PySem.W.Frag) : List V → Hp → VK → Prop := fun vs H Q => rSortedI K vs H Q ∨ rSortedTI K vs H Q
theorem cr_sortedA : CallR X (.builtin "sorted") (rSortedA X.K) := CallR.or cr_sortedI cr_sortedTI
def rSlcA (K : PySem.W.Frag) : V → Option Int → Option Int → Hp → VK → Prop := fun x lo hi H Q => rSlL K x lo hi H Q ∨ rSlA K x lo hi H Q ∨ rSlS x lo hi H Q
theorem sl_A : SlR X (rSlcA X.K) := SlR.or sl_list (SlR.or sl_tupA sl_str)
/-! ### what a for walks -/
/-- a list or a tuple -/
def iSeq (K : PySem.W.Frag) (tl : TE) : TI := fun σ H R => tl σ H fun x H1 => ∃ a xs, x = .ref a ∧ ((SqL K H1 a xs ∧ R (Itl K a) H1) ∨ (SqT K H1 a xs ∧ R (Itt K a) H1))
theorem pi_seq {tg l : Expr} {tl : TE} (hl : PE X l tl) : PI X tg l (iSeq X.K tl) := by
  refine ⟨fun pins s σ H R I h => ?_⟩
  refine thn (hl.run pins s σ H _ I h) fun v s1 ⟨x, H1, I1, r1, a, xs, e, q1⟩ => ?_
  subst e
  obtain rfl : v = Value.ref a := r1
  rcases q1 with ⟨hq, q⟩ | ⟨hq, q⟩
  · obtain ⟨its, rv, p, hz⟩ := I1.list hq
    refine wpAny_pyIter_list p.isList ?_
    refine ⟨s1.heap.objs.size, [s1.heap.objs.size], _, _, H1, rfl, I1.kept (t' := s1.toks) fun b o e => Heap.get?_push_of_some _ e, turn_list a _, ⟨_, Heap.get?_push_size _ rfl, rfl, rfl⟩, fun b hb => ?_, q⟩
    obtain rfl := List.mem_singleton.mp hb
    exact I1.fpOk (Nat.le_refl _) (I1.hok.fresh (Nat.le_refl _))
  · obtain ⟨its, rv, p, hz⟩ := I1.tuple hq
    refine wpAny_pyIter_tuple (show s1.heap.IsTuple a its.toArray from p) ?_
    refine ⟨s1.heap.objs.size, [s1.heap.objs.size], _, _, H1, rfl, I1.kept (t' := s1.toks) fun b o e => Heap.get?_push_of_some _ e, turn_tuple a _, ⟨_, Heap.get?_push_size _ rfl, rfl, rfl⟩, fun b hb => ?_, q⟩
    obtain rfl := List.mem_singleton.mp hb
    exact I1.fpOk (Nat.le_refl _) (I1.hok.fresh (Nat.le_refl _))
end
end PB

/-! PZ: zip and enumerate over lists and tuples in any mix. -/
namespace PB
open PySem PySem.Spec L2
open PyProof.Rows hiding St
/-- a list, a tuple -/
inductive Sk where
  | l | t
def Sk.at : Sk → PySem.W.Frag → Hp → Addr → List V → Prop
  | .l, K, H, a, xs => SqL K H a xs
  | .t, K, H, a, xs => SqT K H a xs
def Sk.iter : Sk → Heap → Addr → Addr → Nat → Prop
  | .l, h, it, a, i => h.IsListIter it a i
  | .t, h, it, a, i => h.IsTupleIter it a i
def Sk.its : Sk → Heap → Addr → Array Value → Prop
  | .l, h, a, vs => h.IsList a vs
  | .t, h, a, vs => h.IsTuple a vs
def Sk.obj : Sk → Addr → Obj
  | .l, a => { cls := .type "list_iterator", data := .fields #[.ref a, .int 0 0] }
  | .t, a => { cls := .type "tuple_iterator", data := .fields #[.ref a, .int 0 0] }
theorem Sk.draws (k : Sk) {prog : Program} {w : World} {A : Around} (hh : A.handled = none) (it a : Addr) (hne : a ≠ it) (vs : Array Value) :
    Draws prog w A it [it, a] vs.size (fun i v => vs[i]? = some v) (fun i h => k.iter h it a i ∧ k.its h a vs) := by
  cases k with
  | l => exact Draws.list hh it a hne vs
  | t => exact Draws.tuple hh it a hne vs
theorem Sk.begins (k : Sk) (a : Addr) (vs : Array Value) : Begins (.ref a) (k.obj a) fun h => k.its h a vs := by
  cases k with
  | l => exact begins_list a vs
  | t => exact begins_tuple a vs
theorem Sk.start (k : Sk) {h : Heap} {it a : Addr} (e : h.get? it = some (k.obj a)) : k.iter h it a 0 := by
  cases k with
  | l => exact ⟨_, e, rfl, rfl⟩
  | t => exact ⟨_, e, rfl, rfl⟩
theorem Sk.keep (k : Sk) {h h' : Heap} {it a : Addr} {i : Nat} (x : k.iter h it a i) (kp : ∀ o, h.get? it = some o → h'.get? it = some o) : k.iter h' it a i := by
  cases k with
  | l => exact Heap.IsListIter.at x kp
  | t => exact Heap.IsTupleIter.at x kp
theorem Sk.there (k : Sk) {h : Heap} {it a : Addr} {i : Nat} (x : k.iter h it a i) : ∃ o, h.get? it = some o ∧ ∀ v, o.data ≠ .cell v := by
  cases k with
  | l => obtain ⟨o, e, _, d⟩ := x; exact ⟨o, e, fun v q => by rw [d] at q; cases q⟩
  | t => obtain ⟨o, e, _, d⟩ := x; exact ⟨o, e, fun v q => by rw [d] at q; cases q⟩
theorem Sk.inv (k : Sk) {X : Cx} {pins : List (Addr × Obj)} {σ : St} {H : Hp} {s : Shared} {a : Addr} {xs : List V} (I : Inv X pins σ H s) (h : k.at X.K H a xs) :
    ∃ its : List Value, Vals xs its ∧ k.its s.heap a its.toArray ∧ a < s.heap.objs.size := by
  cases k with
  | l => obtain ⟨its, r, p, _⟩ := I.list h; exact ⟨its, r, p.isList, p.lt⟩
  | t => obtain ⟨its, r, p, _⟩ := I.tuple h; exact ⟨its, r, p, p.lt⟩
theorem Sk.inj (k : Sk) {X : Cx} {pins : List (Addr × Obj)} {σ : St} {H : Hp} {s : Shared} {a : Addr} {xs ys : List V} (I : Inv X pins σ H s) (h : k.at X.K H a xs) (h' : k.at X.K H a ys) : xs = ys := by
  cases k with
  | l => exact I.list_inj h h'
  | t => exact I.tuple_inj h h'
/-- the items of two sources in new pairs -/
def ItP (K : PySem.W.Frag) (k1 k2 : Sk) (a b : Addr) : It :=
  ⟨fun i H => ∃ (xs ys : List V) (x y : V), k1.at K H a xs ∧ k2.at K H b ys ∧ xs[i]? = some x ∧ ys[i]? = some y,
    fun i H v H' => ∃ T x y, v = .ref T ∧ H T = none ∧ H' = upd H T (.tup [x, y]) ∧ (∀ xs, k1.at K H a xs → xs[i]? = some x) ∧ ∀ ys, k2.at K H b ys → ys[i]? = some y,
    fun i H => ∃ xs ys : List V, k1.at K H a xs ∧ k2.at K H b ys ∧ i = min xs.length ys.length⟩
theorem get_of {xs : List V} {its : List Value} {i : Nat} {x : V} (r : Vals xs its) (h : xs[i]? = some x) {u : Value} (hu : its.toArray[i]? = some u) : RelV x u := by
  obtain ⟨w, hw, rw'⟩ := r.get h
  have e : its[i]? = some u := by simpa using hu
  rw [hw] at e
  cases e
  exact rw'
theorem turn_pair {P : Program} {w : World} {K : PySem.W.Frag} {elts : List Expr} {kk : Nat} {tpos : Pos} {k1 k2 : Sk} {a b z TI TO i1 i2 : Addr} (S : ZipSep2 z TI TO i1 i2 [i1, a] [i2, b]) (n1 : a ≠ i1) (n2 : b ≠ i2) :
    Turn P w K (.Tuple elts kk tpos) (ItP K k1 k2 a b) [z, TI, TO, i1, i2] z (fun i h => IsZip h z TI TO .none ∧ IsTupOf2 h TI (.ref i1) (.ref i2) ∧ (∃ x y, IsTupOf2 h TO x y) ∧ k1.iter h i1 a i ∧ k2.iter h i2 b i) where
  mem := by simp
  obj := fun i h st c hc => by
    obtain ⟨hz, hTI, ⟨x, y, hTO⟩, h1, h2⟩ := st
    simp only [List.mem_cons, List.not_mem_nil, or_false] at hc
    rcases hc with q | q | q | q | q <;> subst q
    · exact ⟨_, hz, fun v q => nomatch q⟩
    · exact ⟨_, hTI, fun v q => nomatch q⟩
    · exact ⟨_, hTO, fun v q => nomatch q⟩
    · exact k1.there h1
    · exact k2.there h2
  keep := fun i h h' st kp => by
    obtain ⟨hz, hTI, ⟨x, y, hTO⟩, h1, h2⟩ := st
    exact ⟨kp z (by simp) _ hz, kp TI (by simp) _ hTI, ⟨x, y, kp TO (by simp) _ hTO⟩, k1.keep h1 fun o q => kp i1 (by simp) o q, k2.keep h2 fun o q => kp i2 (by simp) o q⟩
  item := by
    intro X hP hw hK hc i pins s σ H E I hf st hg
    subst hP hw hK
    obtain ⟨hz, hTI, hTO, h1, h2⟩ := st
    obtain ⟨xs, ys, x, y, qx, qy, hx, hy⟩ := hg
    obtain ⟨us, r1, p1, _⟩ := k1.inv I qx
    obtain ⟨vs, r2, p2, _⟩ := k2.inv I qy
    have hh : X.A.in1.handled = none := I.ok.hd hc
    have W := GoesN.zip2 (prog := X.prog) (w := X.w) (A := X.A) (elts := elts) (x1 := kk) (pos := tpos) S (k1.draws hh i1 a n1 us.toArray) (k2.draws hh i2 b n2 vs.toArray)
    have l1 : i < us.toArray.size := by
      have := (List.getElem?_eq_some_iff.mp hx).1
      rw [r1.length] at this
      simpa using this
    have l2 : i < vs.toArray.size := by
      have := (List.getElem?_eq_some_iff.mp hy).1
      rw [r2.length] at this
      simpa using this
    refine W.goes i s _ E (Nat.lt_min.mpr ⟨l1, l2⟩) ⟨hz, hTI, hTO, ⟨h1, p1⟩, h2, p2⟩ fun v h' tk hY st' kp _ => ?_
    obtain ⟨T, u, u2, rfl, hT, e1, e2, o, eo, co, no, dO⟩ := hY
    obtain ⟨hz', hTI', hTO', ⟨h1', _⟩, h2', _⟩ := st'
    have new : ObjOk X.prog X.w (upd H T (.tup [x, y])) h' T (.tup [x, y]) :=
      ⟨by show 2 ≤ sizeLine; decide, [u, u2], .cons (get_of r1 hx e1) (.cons (get_of r2 hy e2) .nil), ⟨o, eo, co, no, dO⟩⟩
    have sub : ∀ c, c ∈ [z, TO, i1, i2] → c ∈ [z, TI, TO, i1, i2] := fun c hc => by
      simp only [List.mem_cons, List.not_mem_nil, or_false] at hc ⊢
      rcases hc with q | q | q | q
      · exact .inl q
      · exact .inr (.inr (.inl q))
      · exact .inr (.inr (.inr (.inl q)))
      · exact .inr (.inr (.inr (.inr q)))
    have I1 : Inv X pins σ (upd H T (.tup [x, y])) { s with heap := h', toks := tk } := I.turnedNew (ch := [z, TO, i1, i2]) (fun c o hb q => kp c o hb q) (fun c hc => hf c (sub c hc)) hT new
    refine ⟨.ref T, _, I1, rfl, ⟨T, x, y, rfl, I.hok.fresh hT, rfl, fun l hl => by rw [k1.inj I hl qx]; exact hx, fun l hl => by rw [k2.inj I hl qy]; exact hy⟩, ⟨hz', hTI', hTO', h1', h2'⟩, fun c hc => ?_⟩
    have lt : c < s.heap.objs.size := by
      simp only [List.mem_cons, List.not_mem_nil, or_false] at hc
      rcases hc with q | q | q | q | q <;> subst q
      · exact Heap.lt_size hz
      · exact Heap.lt_size hTI
      · obtain ⟨_, _, e⟩ := hTO; exact Heap.lt_size e
      · obtain ⟨_, e, _⟩ := k1.there h1; exact Heap.lt_size e
      · obtain ⟨_, e, _⟩ := k2.there h2; exact Heap.lt_size e
    rw [upd_ne (Nat.ne_of_lt (Nat.lt_of_lt_of_le lt hT))]
    exact (hf c hc).1
  done := by
    intro X hP hw hK hc i pins s σ H E I hf st hg
    subst hP hw hK
    obtain ⟨hz, hTI, hTO, h1, h2⟩ := st
    obtain ⟨xs, ys, qx, qy, hi⟩ := hg
    obtain ⟨us, r1, p1, _⟩ := k1.inv I qx
    obtain ⟨vs, r2, p2, _⟩ := k2.inv I qy
    have hh : X.A.in1.handled = none := I.ok.hd hc
    have W := GoesN.zip2 (prog := X.prog) (w := X.w) (A := X.A) (elts := elts) (x1 := kk) (pos := tpos) S (k1.draws hh i1 a n1 us.toArray) (k2.draws hh i2 b n2 vs.toArray)
    have en : i = min us.toArray.size vs.toArray.size := by
      rw [List.size_toArray, List.size_toArray, ← r1.length, ← r2.length]
      exact hi
    subst en
    have sub : ∀ c, c ∈ [z, TO, i1, i2] → c ∈ [z, TI, TO, i1, i2] := fun c hc => by
      simp only [List.mem_cons, List.not_mem_nil, or_false] at hc ⊢
      rcases hc with q | q | q | q
      · exact .inl q
      · exact .inr (.inr (.inl q))
      · exact .inr (.inr (.inr (.inl q)))
      · exact .inr (.inr (.inr (.inr q)))
    exact W.stops s _ E ⟨hz, hTI, hTO, ⟨h1, p1⟩, h2, p2⟩ fun h' tk kp _ => I.turnedL (ch := [z, TO, i1, i2]) (fun c o hb q => kp c o hb q) (fun c hc => hf c (sub c hc))
  self := fun A i s Q E st h => wpAny_pyIter_zip st.1 h
def iZipM (K : PySem.W.Frag) (ta : TA) : TI := fun σ H R => ta σ H fun vs H1 => ∃ (k1 k2 : Sk) (a b : Addr) (xs ys : List V), vs = [.ref a, .ref b] ∧ k1.at K H1 a xs ∧ k2.at K H1 b ys ∧ R (ItP K k1 k2 a b) H1
theorem pi_zipM {X : Cx} {e e2 : Expr} {ta : TA} {p pos tpos : Pos} {elts : List Expr} {kk : Nat} (hg : Gl X "zip") (hm : X.mg "zip" = none) (ha : PA X [e, e2] ta)
    (hs : starEach [e, e2] X.env = (false, eval e X.env) :: starEach [e2] X.env := by rfl) (hpl : (backTo pos (starEach [e2] X.env)).any (·.1) = false := by rfl) :
    PI X (.Tuple elts kk tpos) (.Call (.Name "zip" p) [e, e2] [] pos) (iZipM X.K ta) := by
  refine ⟨fun pins s σ H R I h => ?_⟩
  refine Call_ (ld_blt I hg hm PyProof.Rows.boot_zip (PyProof.Rows.callWith_type1 (thn (ha.run pos pins s σ H _ I h) fun us s1 ⟨vs, H1, I1, r1, q1⟩ => ?_) hs hpl))
  obtain ⟨k1, k2, a, b, xs, ys, ex, qx, qy, q⟩ := q1
  subst ex
  obtain ⟨u1, u2, rfl, ra, rb⟩ := vals2 r1
  obtain rfl : u1 = Value.ref a := ra
  obtain rfl : u2 = Value.ref b := rb
  obtain ⟨its, _, p1, la⟩ := k1.inv I1 qx
  obtain ⟨its2, _, p2, lb⟩ := k2.inv I1 qy
  refine zip_begins2 (k1.begins a its.toArray) (k2.begins b its2.toArray) p1 p2 fun h' hz hTI hTO e1 e2 _ hk => wpAny_pyIter_zip hz ?_
  have I2 : Inv X pins σ H1 { s1 with heap := h' } := I1.kept (t' := s1.toks) hk
  have S := zip_sep2 (N := s1.heap.objs.size) (fp1 := [a]) (fp2 := [b]) (fun c hc => by rw [List.mem_singleton.mp hc]; exact la) (fun c hc => by rw [List.mem_singleton.mp hc]; exact lb)
  refine ⟨s1.heap.objs.size + 4, [s1.heap.objs.size + 4, s1.heap.objs.size + 2, s1.heap.objs.size + 3, s1.heap.objs.size, s1.heap.objs.size + 1], _, _, H1, rfl, I2, turn_pair S (Nat.ne_of_lt la) (Nat.ne_of_lt (Nat.lt_succ_of_lt lb)),
    ⟨hz, hTI, ⟨_, _, hTO⟩, k1.start e1, k2.start e2⟩, fun c hc => ?_, q⟩
  have hle : s1.heap.objs.size ≤ c := by
    simp only [List.mem_cons, List.not_mem_nil, or_false] at hc
    rcases hc with z | z | z | z | z <;> rw [z]
    · exact Nat.le_add_right _ _
    · exact Nat.le_add_right _ _
    · exact Nat.le_add_right _ _
    · exact Nat.le_refl _
    · exact Nat.le_add_right _ _
  exact I1.fpOk hle (I1.hok.fresh hle)
end PB

/-! PN: enumerate over a list or a tuple. -/
namespace PB
open PySem PySem.Spec L2
open PyProof.Rows hiding St
set_option maxHeartbeats 8000000 in
theorem enum_new1 {v : Value} {o : Obj} {H : Heap → Prop} (B : Begins v o H) :
    Meets (Builtin.«enumerate.__new__» ⟨[.type "enumerate", v], []⟩) fun _ R s => H s.heap ∧
      R (.ok (.ret (.ref (s.heap.push o).objs.size))) { s with heap := (s.heap.push o).push { cls := .type "enumerate", data := .fields #[.none, .bool false, .ref s.heap.objs.size, rawInt 0, .none, .none] } } :=
  .of_wp fun prog w A R s h => by
    obtain ⟨hp, g, d, tk, os⟩ := s
    obtain ⟨h1, h⟩ := h
    have sb := sub_enumerate
    have q1 : ∀ {A' : Around} {E Q : Value → Shared → Prop}, Q (.ref hp.objs.size) ⟨hp.push o, g, d, tk, os⟩ → wpAny (model prog w) A' (pyIter v) Q E ⟨hp, g, d, tk, os⟩ := fun q => B.iter prog w _ _ ⟨hp, g, d, tk, os⟩ _ h1 q
    wp_walk using q1
    refine wpAny_stack_any fun st => wpAny_pure ?_
    split
    · rename_i c _ _ _ _ _
      cases (c == Value.type "enumerate") <;> (wp_walk using q1; exact ⟨_, rfl, h⟩)
    · wp_walk using q1
      exact ⟨_, rfl, h⟩
theorem enum_begins1 {prog : Program} {w : World} {A : Around} {E Q : Value → Shared → Prop} {s : Shared} {v : Value} {o : Obj} {H : Heap → Prop} (B : Begins v o H) (h1 : H s.heap)
    (h : ∀ h', IsEnum h' (s.heap.objs.size + 1) s.heap.objs.size 0 .none → h'.get? s.heap.objs.size = some o → (∀ b u, s.heap.get? b = some u → h'.get? b = some u) → Q (.ref (s.heap.objs.size + 1)) { s with heap := h' }) :
    wpAny (model prog w) A (call (.type "enumerate") [v]) Q E s := by
  refine callType_new F.called_enumerate (by decide) (F.typeCall_enumerate_1 _) (F.newCall_enumerate_1 _) (fun x => F.args_object_init_2 x _) F.entry_enumerate_new (enum_new1 B) ⟨h1, ?_⟩
  show _ ∧ _
  have hz : (s.heap.push o).objs.size = s.heap.objs.size + 1 := Heap.size_push ..
  rw [hz]
  have he : IsEnum ((s.heap.push o).push { cls := .type "enumerate", data := .fields #[.none, .bool false, .ref s.heap.objs.size, rawInt 0, .none, .none] }) (s.heap.objs.size + 1) s.heap.objs.size 0 .none := by
    rw [← hz]
    exact Heap.get?_push_size (s.heap.push o) rfl
  exact ⟨⟨_, he, rfl⟩, h _ he (Heap.get?_push_of_some _ (Heap.get?_push_size _ B.free)) fun b u x => Heap.get?_push_of_some _ (Heap.get?_push_of_some _ x)⟩
/-- the items of a source, each in a new pair with its index -/
def ItE (K : PySem.W.Frag) (k : Sk) (a : Addr) : It :=
  ⟨fun i H => ∃ (xs : List V) (x : V), k.at K H a xs ∧ xs[i]? = some x,
    fun i H v H' => ∃ T x, v = .ref T ∧ H T = none ∧ H' = upd H T (.tup [.int (i : Nat), x]) ∧ ∀ xs, k.at K H a xs → xs[i]? = some x,
    fun i H => ∃ xs : List V, k.at K H a xs ∧ i = xs.length⟩
theorem turn_num {P : Program} {w : World} {K : PySem.W.Frag} {elts : List Expr} {kk : Nat} {tpos : Pos} {k : Sk} {a e it : Addr} (n1 : a ≠ it) (n2 : e ≠ it) (n3 : e ≠ a) :
    Turn P w K (.Tuple elts kk tpos) (ItE K k a) [e, it] e (fun i h => (∃ old, IsEnum h e it ((0 : Int) + (i : Nat)) old) ∧ k.iter h it a i) where
  mem := by simp
  obj := fun i h st c hc => by
    obtain ⟨⟨old, he⟩, h1⟩ := st
    simp only [List.mem_cons, List.not_mem_nil, or_false] at hc
    rcases hc with q | q <;> subst q
    · exact ⟨_, he, fun v q => nomatch q⟩
    · exact k.there h1
  keep := fun i h h' st kp => by
    obtain ⟨⟨old, he⟩, h1⟩ := st
    exact ⟨⟨old, kp e (by simp) _ he⟩, k.keep h1 fun o q => kp it (by simp) o q⟩
  item := by
    intro X hP hw hK hc i pins s σ H E I hf st hg
    subst hP hw hK
    obtain ⟨he, h1⟩ := st
    obtain ⟨xs, x, qx, hx⟩ := hg
    obtain ⟨us, r1, p1, _⟩ := k.inv I qx
    have hh : X.A.in1.handled = none := I.ok.hd hc
    have W := GoesN.enumFrom (prog := X.prog) (w := X.w) (A := X.A) (elts := elts) (x1 := kk) (pos := tpos) 0 (k.draws hh it a n1 us.toArray) e n2 (by simp [n2, n3]) (by simp)
    have l1 : i < us.toArray.size := by
      have := (List.getElem?_eq_some_iff.mp hx).1
      rw [r1.length] at this
      simpa using this
    refine W.goes i s _ E l1 ⟨he, h1, p1⟩ fun v h' tk hY st' kp _ => ?_
    obtain ⟨T, t, u, rfl, hT, e1, o, eo, co, no, dO⟩ := hY
    obtain ⟨he', h1', _⟩ := st'
    have new : ObjOk X.prog X.w (upd H T (.tup [.int (i : Nat), x])) h' T (.tup [.int (i : Nat), x]) := by
      refine ⟨by show 2 ≤ sizeLine; decide, [.int (0 + (i : Nat)) t, u], .cons ⟨t, ?_⟩ (.cons (get_of r1 hx e1) .nil), ⟨o, eo, co, no, dO⟩⟩
      rw [Int.zero_add]
    have I1 : Inv X pins σ (upd H T (.tup [.int (i : Nat), x])) { s with heap := h', toks := tk } := I.turnedNew (ch := [e, it]) (fun c o hb q => kp c o hb q) hf hT new
    refine ⟨.ref T, _, I1, rfl, ⟨T, x, rfl, I.hok.fresh hT, rfl, fun l hl => by rw [k.inj I hl qx]; exact hx⟩, ⟨he', h1'⟩, fun c hc => ?_⟩
    have lt : c < s.heap.objs.size := by
      simp only [List.mem_cons, List.not_mem_nil, or_false] at hc
      rcases hc with q | q <;> subst q
      · obtain ⟨_, e⟩ := he; exact Heap.lt_size e
      · obtain ⟨_, e, _⟩ := k.there h1; exact Heap.lt_size e
    rw [upd_ne (Nat.ne_of_lt (Nat.lt_of_lt_of_le lt hT))]
    exact (hf c hc).1
  done := by
    intro X hP hw hK hc i pins s σ H E I hf st hg
    subst hP hw hK
    obtain ⟨he, h1⟩ := st
    obtain ⟨xs, qx, hi⟩ := hg
    obtain ⟨us, r1, p1, _⟩ := k.inv I qx
    have hh : X.A.in1.handled = none := I.ok.hd hc
    have W := GoesN.enumFrom (prog := X.prog) (w := X.w) (A := X.A) (elts := elts) (x1 := kk) (pos := tpos) 0 (k.draws hh it a n1 us.toArray) e n2 (by simp [n2, n3]) (by simp)
    have en : i = us.toArray.size := by
      rw [List.size_toArray, ← r1.length]
      exact hi
    subst en
    exact W.stops s _ E ⟨he, h1, p1⟩ fun h' tk kp _ => I.turnedL (ch := [e, it]) (fun c o hb q => kp c o hb q) hf
  self := fun A i s Q E st h => let ⟨⟨_, he⟩, _⟩ := st; wpAny_pyIter_enum he h
def iEnumM (K : PySem.W.Frag) (ta : TA) : TI := fun σ H R => ta σ H fun vs H1 => ∃ (k : Sk) (a : Addr) (xs : List V), vs = [.ref a] ∧ k.at K H1 a xs ∧ R (ItE K k a) H1
theorem pi_enumM {X : Cx} {e : Expr} {ta : TA} {p pos tpos : Pos} {elts : List Expr} {kk : Nat} (cl : X.calm = true) (hm : X.mg "enumerate" = none) (ha : PA X [e] ta) (hg : Gl X "enumerate" := by rfl) (hs : starEach [e] X.env = [(false, eval e X.env)] := by rfl) :
    PI X (.Tuple elts kk tpos) (.Call (.Name "enumerate" p) [e] [] pos) (iEnumM X.K ta) := by
  refine ⟨fun pins s σ H R I h => ?_⟩
  refine Call_ (ld_blt I hg hm boot_enumerate (PyProof.Rows.callWith_type1 (thn (ha.run pos pins s σ H _ I h) fun us s1 ⟨vs, H1, I1, r1, q1⟩ => ?_) hs rfl))
  obtain ⟨k, a, xs, ex, qx, q⟩ := q1
  subst ex
  rw [Vals.ref1 r1]
  obtain ⟨its, _, p1, la⟩ := k.inv I1 qx
  refine enum_begins1 (k.begins a its.toArray) p1 fun h' he e1 hk => wpAny_pyIter_enum he ?_
  have I2 : Inv X pins σ H1 { s1 with heap := h' } := I1.kept (t' := s1.toks) hk
  refine ⟨s1.heap.objs.size + 1, [s1.heap.objs.size + 1, s1.heap.objs.size], _, _, H1, rfl, I2, turn_num (Nat.ne_of_lt la) (Nat.succ_ne_self _) (Nat.ne_of_gt (Nat.lt_succ_of_lt la)), ⟨⟨.none, he⟩, k.start e1⟩, fun c hc => ?_, q⟩
  have hle : s1.heap.objs.size ≤ c := by
    simp only [List.mem_cons, List.not_mem_nil, or_false] at hc
    rcases hc with z | z <;> rw [z]
    · exact Nat.le_add_right _ _
    · exact Nat.le_refl _
  exact I1.fpOk hle (I1.hok.fresh hle)
/-- xs[i] read, for an xs[i] op= e -/
theorem get_list {X : Cx} : PGet X (rIxL X.K) := by
  intro pins s σ H o i ov iv Q I ro ri h
  obtain ⟨p, xs, k, z, rfl, rfl, hq, he, q⟩ := h
  obtain rfl : ov = Value.ref p := ro
  obtain ⟨t, rfl⟩ := (show ∃ t, iv = Value.int k t from ri)
  obtain ⟨its, r, pl, hz⟩ := I.list hq
  obtain ⟨j, h1, h2, h3, h4, h5⟩ := atI_get he
  obtain ⟨u, eu, ru⟩ := r.get h2
  have hl := r.length
  have hn := line63
  have fin : EP X pins σ Q u s := ⟨z, H, I, ru, q⟩
  by_cases h0 : 0 ≤ k
  · have hj : k.toNat = j := Option.some.inj ((seqIndex_of h0 h5).symm.trans h1)
    exact wpAny_getItem_list pl.isList h0 (by omega) (by rw [hj]; simpa using eu) fin
  · have hj : (k + (its.toArray.size : Int)).toNat = j := by
      rw [List.size_toArray, ← hl]
      exact Option.some.inj ((seqIndex_neg (by omega) h4).symm.trans h1)
    exact wpAny_getItem_list_neg pl.isList (by omega) (by rw [List.size_toArray] <;> omega) (by omega) (by rw [hj]; simpa using eu) fin
end PB

/-! PL: readings of loops, comprehensions, operators by kind. -/
namespace PB
open PySem PySem.Spec L2
open PyProof.Rows hiding St
section
variable {K : PySem.W.Frag} {H H' : Hp} {a p d : Addr} {xs ys : List V} {o : HO}
theorem sqL_of (h : H a = some (.lst xs)) : SqL K H a xs := .inl (.inl h)
theorem sqT_of (h : H a = some (.tup xs)) : SqT K H a xs := .inl (.inl h)
theorem sqL_new : SqL K (upd H p (.lst xs)) p xs := sqL_of upd_same
theorem sqT_new : SqT K (upd H p (.tup xs)) p xs := sqT_of upd_same
theorem sqL_ex (e : Ex H H') (h : SqL K H a xs) : SqL K H' a xs := e.sqL h
theorem sqT_ex (e : Ex H H') (h : SqT K H a xs) : SqT K H' a xs := e.sqT h
theorem sqL_up (n : H p = none) (h : SqL K H a xs) : SqL K (upd H p o) a xs := sqL_ex (Ex.new n) h
theorem sqT_up (n : H p = none) (h : SqT K H a xs) : SqT K (upd H p o) a xs := sqT_ex (Ex.new n) h
theorem at_ex {u : HO} (e : Ex H H') (h : H a = some u) : H' a = some u := e a u h
theorem at_up {u : HO} (n : H p = none) (h : H a = some u) : upd H p o a = some u := Ex.new n a u h
theorem free_up {q : Addr} (h : upd H p o q = none) (n : H p = none) : H q = none := (Ex.new (o := o) n).free h
/-- what stood elsewhere stands -/
theorem sqT_exb (e : ExB d H H') (n : a ≠ d) (h : SqT K H a xs) : SqT K H' a xs := by
  rcases h with (h | ⟨o, h⟩) | h
  · exact .inl (.inl (e _ _ n h))
  · exact .inl (.inr ⟨o, e _ _ n h⟩)
  · exact .inr h
theorem sqL_exb (e : ExB d H H') (n : a ≠ d) (h : SqL K H a xs) : SqL K H' a xs := by
  rcases h with (h | ⟨o, h⟩) | h
  · exact .inl (.inl (e _ _ n h))
  · exact .inl (.inr ⟨o, e _ _ n h⟩)
  · exact .inr h
/-- what is a tuple is no list of H -/
theorem sqT_ne {xs ys : List V} (h : SqT K H a xs) (hd : H d = some (.lst ys)) : a = d → ∃ o its n, K.lookup a = some o ∧ o.cls = .type "tuple" ∧ o.data = .seq its n ∧ its.size ≤ sizeLine ∧ Vals xs its.toList := fun e => by
  subst e
  rcases h with (h | ⟨o, h⟩) | h
  · rw [hd] at h; cases h
  · rw [hd] at h; cases h
  · exact h
end
section
variable {σ : St} {H : Hp} {Q : VK} {D : Ends} {K : PySem.W.Frag} {a b : Addr} {i j : Int}
/-! operators on ints -/
theorem r_addI (q : Q (.int (i + j)) H) : rAddA K (.int i) (.int j) H Q := .inl ⟨i, j, rfl, rfl, q⟩
theorem r_mulI (c : CMul i j) (q : Q (.int (i * j)) H) : rMulA K (.int i) (.int j) H Q := .inl ⟨i, j, rfl, rfl, c, q⟩
theorem r_mulT {l : Addr} {xs : List V} {k : Int} (h : SqT K H l xs) (c1 : xs ≠ []) (c2 : 2 ≤ k) (c3 : k ≤ 1000) (c4 : xs.length ≤ 1000) (q : ∀ p, H p = none → Q (.ref p) (upd H p (.tup (List.replicate k.toNat xs).flatten))) : rMulA K (.ref l) (.int k) H Q := .inr (.inr ⟨l, k, xs, rfl, rfl, h, c1, c2, c3, c4, q⟩)
theorem r_cmpI {g : Int → Int → Bool} {f : PyData → PyData → Bool} (q : Q (.bl (g i j)) H) : rCmpA K g f (.int i) (.int j) H Q := .inl ⟨i, j, rfl, rfl, q⟩
theorem r_eqI (q : Q (.bl (decide (i = j))) H) : rEqA K (.int i) (.int j) H Q := .inl ⟨rfl, by
  have e : decide (V.int i = V.int j) = decide (i = j) := decide_eq_decide.mpr ⟨fun h => V.int.inj h, fun h => by rw [h]⟩
  rw [e]; exact q⟩
theorem r_neI (q : Q (.bl (!decide (i = j))) H) : rNeA K (.int i) (.int j) H Q := .inl ⟨rfl, by
  have e : decide (V.int i = V.int j) = decide (i = j) := decide_eq_decide.mpr ⟨fun h => V.int.inj h, fun h => by rw [h]⟩
  rw [e]; exact q⟩
theorem r_modI (c : j ≠ 0) (q : Q (.int (i.fmod j)) H) : rI (fun _ j => j ≠ 0) (fun i j => .int (i.fmod j)) (.int i) (.int j) H Q := ⟨i, j, rfl, rfl, c, q⟩
theorem r_divI (c : CDivN i j) (q : Q (.int (i.fdiv j)) H) : rI CDivN (fun i j => .int (i.fdiv j)) (.int i) (.int j) H Q := ⟨i, j, rfl, rfl, c, q⟩
theorem r_powI (c : CPow i j) (q : Q (.int (i ^ j.toNat)) H) : rI CPow (fun i j => .int (i ^ j.toNat)) (.int i) (.int j) H Q := ⟨i, j, rfl, rfl, c, q⟩
/-! built-in functions -/
theorem r_sumL {ns : List Int} (h : SqL K H a (ns.map V.int)) (q : Q (.int ns.sum) H) : rSumA K [.ref a] H Q := .inl ⟨a, ns, rfl, h, q⟩
theorem r_sumT {ns : List Int} (h : SqT K H a (ns.map V.int)) (q : Q (.int ns.sum) H) : rSumA K [.ref a] H Q := .inr ⟨a, ns, rfl, h, q⟩
theorem r_all {bs : List Bool} (h : SqL K H a (bs.map V.bl)) (q : Q (.bl (bs.all id)) H) : rAll K [.ref a] H Q := ⟨a, bs, rfl, h, q⟩
theorem r_any {bs : List Bool} (h : SqL K H a (bs.map V.bl)) (q : Q (.bl (bs.any id)) H) : rAny K [.ref a] H Q := ⟨a, bs, rfl, h, q⟩
theorem r_max2 (q : Q (.int (max i j)) H) : rMax2A [V.int i, V.int j] H Q := ⟨i, j, rfl, by
  have e : (if j > i then j else i) = max i j := by omega
  rw [e]; exact q⟩
theorem r_min2 (q : Q (.int (min i j)) H) : rMin2A [V.int i, V.int j] H Q := ⟨i, j, rfl, by
  have e : (if j < i then j else i) = min i j := by omega
  rw [e]; exact q⟩
theorem r_abs (q : Q (.int (if i < 0 then -i else i)) H) : rAbsA [V.int i] H Q := ⟨i, rfl, q⟩
theorem r_int1 (q : Q (.int i) H) : rInt1A [V.int i] H Q := .inl ⟨i, rfl, q⟩
end
section
variable {H : Hp} {Q : VK} {K : PySem.W.Frag} {a : Addr} {xs : List V} {ns : List Int}
theorem r_isT (h : SqT K H a xs) (q : Q (.bl true) H) : rIsi K [.ref a, .ty "tuple"] H Q := r_isi (b := true) (.sqT h) rfl q
theorem r_lenL (h : SqL K H a xs) (q : Q (.int xs.length) H) : rLenA K [V.ref a] H Q := ⟨_, xs.length, rfl, .inl ⟨xs, h, rfl⟩, q⟩
theorem r_lenT (h : SqT K H a xs) (q : Q (.int xs.length) H) : rLenA K [V.ref a] H Q := ⟨_, xs.length, rfl, .inr ⟨xs, h, rfl⟩, q⟩
theorem r_lenLI (h : SqL K H a (ns.map V.int)) (q : Q (.int ns.length) H) : rLenA K [V.ref a] H Q := ⟨_, ns.length, rfl, .inl ⟨_, h, by rw [List.length_map]⟩, q⟩
theorem r_lenTI (h : SqT K H a (ns.map V.int)) (q : Q (.int ns.length) H) : rLenA K [V.ref a] H Q := ⟨_, ns.length, rfl, .inr ⟨_, h, by rw [List.length_map]⟩, q⟩
/-- tuple(list), ints -/
theorem r_tupL (h : SqL K H a xs) (q : ∀ p, H p = none → Q (.ref p) (upd H p (.tup xs))) : rTupA K [V.ref a] H Q := ⟨a, xs, rfl, .inl ⟨h, q⟩⟩
theorem r_tupT (h : SqT K H a xs) (q : Q (.ref a) H) : rTupA K [V.ref a] H Q := ⟨a, xs, rfl, .inr ⟨h, q⟩⟩
theorem r_listL (h : SqL K H a xs) (q : ∀ p, H p = none → Q (.ref p) (upd H p (.lst xs))) : rListA K [V.ref a] H Q := ⟨a, xs, rfl, .inl h, q⟩
theorem r_listT (h : SqT K H a xs) (q : ∀ p, H p = none → Q (.ref p) (upd H p (.lst xs))) : rListA K [V.ref a] H Q := ⟨a, xs, rfl, .inr h, q⟩
theorem r_ixL {i : Int} {v : V} (h : SqL K H a xs) (e : atI xs i = some v) (q : Q v H) : rIxA K (.ref a) (.int i) H Q := .inl ⟨a, xs, i, v, rfl, rfl, h, e, q⟩
theorem r_ixT {i : Int} {v : V} (h : SqT K H a xs) (e : atI xs i = some v) (q : Q v H) : rIxA K (.ref a) (.int i) H Q := .inr (.inl ⟨a, xs, i, v, rfl, rfl, h, e, q⟩)
theorem at_I {i : Nat} {n : Int} (h : ns[i]? = some n) : atI (ns.map V.int) (i : Int) = some (.int n) := atI_nat (by rw [List.getElem?_map, h]; rfl)
theorem r_ixLI {i : Nat} {n : Int} (h : SqL K H a (ns.map V.int)) (e : ns[i]? = some n) (q : Q (.int n) H) : rIxA K (.ref a) (.int (i : Nat)) H Q := r_ixL h (at_I e) q
theorem r_ixTI {i : Nat} {n : Int} (h : SqT K H a (ns.map V.int)) (e : ns[i]? = some n) (q : Q (.int n) H) : rIxA K (.ref a) (.int (i : Nat)) H Q := r_ixT h (at_I e) q
end
/-! loops: what a for asks of its walk, what a comprehension asks of it -/
def FQ (g : TG) (tb : TS) (D : Ends) (σ : St) : It → Hp → Prop := fun J H1 => ∃ W : Nat → Nat → St → Hp → Prop, (∃ m, W 0 m σ H1) ∧ ∀ i m σ H, W i m σ H →
  (J.stop i H ∧ D.nx σ H) ∨ (J.go i H ∧ ∃ N : St → Hp → Prop, (∀ σ' H', N σ' H' → ∃ m', m' < m ∧ W (i + 1) m' σ' H') ∧ ∀ x H', J.yld i H x H' → g x σ H' fun σ2 H2 => tb { D with nx := N, ct := N, bk := D.nx } σ2 H2)
def CQ (g : TG) (tt : TT) (te : TE) (vs : List Nat) (σ : St) (Q : VK) : It → Hp → Prop := fun J H1 => ∀ L, H1 L = none → ∃ W : Nat → Nat → Hp → Prop, (∃ m, W 0 m (upd H1 L (.lst []))) ∧ ∀ i m H, W i m H →
  (J.stop i H ∧ Q (.ref L) H) ∨ (J.go i H ∧ ∃ Nx : Hp → Prop, (∀ H', Nx H' → ∃ m', m' < m ∧ W (i + 1) m' H') ∧ ∀ x H', J.yld i H x H' → g x (wipe σ vs) H' fun σ2 H2 => wipe σ2 vs = wipe σ vs ∧ tt σ2 H2 fun b H3 =>
    if b = true then te σ2 H3 fun y H4 => ∃ acc, H4 L = some (.lst acc) ∧ acc.length < sizeLine ∧ Nx (upd H4 L (.lst (acc ++ [y]))) else Nx H3)
def sQ (K : PySem.W.Frag) (R : It → Hp → Prop) : VK := fun x H1 => ∃ a xs, x = .ref a ∧ ((SqL K H1 a xs ∧ R (Itl K a) H1) ∨ (SqT K H1 a xs ∧ R (Itt K a) H1))
def zQ (K : PySem.W.Frag) (R : It → Hp → Prop) : List V → Hp → Prop := fun vs H1 => ∃ (k1 k2 : Sk) (a b : Addr) (xs ys : List V), vs = [.ref a, .ref b] ∧ k1.at K H1 a xs ∧ k2.at K H1 b ys ∧ R (ItP K k1 k2 a b) H1
def eQ (K : PySem.W.Frag) (R : It → Hp → Prop) : List V → Hp → Prop := fun vs H1 => ∃ (k : Sk) (a : Addr) (xs : List V), vs = [.ref a] ∧ k.at K H1 a xs ∧ R (ItE K k a) H1
def nQ1 (R : It → Hp → Prop) : List V → Hp → Prop := fun vs H1 => ∃ j : Int, vs = [.int j] ∧ -(2 ^ 62) ≤ j ∧ j < 2 ^ 62 ∧ R (Itr 0 j.toNat) H1
def nQ2 (R : It → Hp → Prop) : List V → Hp → Prop := fun vs H1 => ∃ i j : Int, vs = [.int i, .int j] ∧ (-(2 ^ 62) ≤ i ∧ i < 2 ^ 62 ∧ -(2 ^ 62) ≤ j ∧ j < 2 ^ 62) ∧ R (Itr i (j - i).toNat) H1
section
variable {σ : St} {H : Hp} {Q : VK} {D : Ends} {K : PySem.W.Frag} {wi : TI} {tl : TE} {ta : TA} {g : TG} {tb : TS} {tt : TT} {te : TE} {vs : List Nat} {R : It → Hp → Prop}
theorem r_yes {Q : Bool → Hp → Prop} (h : Q true H) : tYes σ H Q := h
theorem r_for (h : wi σ H (FQ g tb D σ)) : tFor wi g tb D σ H := h
theorem r_lc (h : wi σ H (CQ g tt te vs σ Q)) : tLc wi g tt te vs σ H Q := h
theorem r_iSeq (h : tl σ H (sQ K R)) : iSeq K tl σ H R := h
theorem r_iZip (h : ta σ H (zQ K R)) : iZipM K ta σ H R := h
theorem r_iEnum (h : ta σ H (eQ K R)) : iEnumM K ta σ H R := h
theorem r_iRng1 (h : ta σ H (nQ1 R)) : iRng1 ta σ H R := h
theorem r_iRng2 (h : ta σ H (nQ2 R)) : iRng2 ta σ H R := h
end
section
variable {H : Hp} {K : PySem.W.Frag} {R : It → Hp → Prop} {a b : Addr} {xs ys : List V}
def ItS (K : PySem.W.Frag) : Sk → Addr → It
  | .l, a => Itl K a
  | .t, a => Itt K a
theorem walk_S {k : Sk} : Walk (ItS K k a) xs.length (fun H => k.at K H a xs) (YAt xs) := by
  cases k with
  | l => exact walk_list
  | t => exact walk_tup
theorem s_S {k : Sk} (h : k.at K H a xs) (r : R (ItS K k a) H) : sQ K R (.ref a) H := by
  cases k with
  | l => exact ⟨a, xs, rfl, .inl ⟨h, r⟩⟩
  | t => exact ⟨a, xs, rfl, .inr ⟨h, r⟩⟩
theorem s_L (h : SqL K H a xs) (r : R (Itl K a) H) : sQ K R (.ref a) H := ⟨a, xs, rfl, .inl ⟨h, r⟩⟩
theorem s_T (h : SqT K H a xs) (r : R (Itt K a) H) : sQ K R (.ref a) H := ⟨a, xs, rfl, .inr ⟨h, r⟩⟩
theorem z_P {k1 k2 : Sk} (h1 : k1.at K H a xs) (h2 : k2.at K H b ys) (r : R (ItP K k1 k2 a b) H) : zQ K R [.ref a, .ref b] H := ⟨k1, k2, a, b, xs, ys, rfl, h1, h2, r⟩
theorem e_P {k : Sk} (h : k.at K H a xs) (r : R (ItE K k a) H) : eQ K R [.ref a] H := ⟨k, a, xs, rfl, h, r⟩
theorem n_1 {n : Int} (h : -(2 ^ 62) ≤ n ∧ n < 2 ^ 62) (r : R (Itr 0 n.toNat) H) : nQ1 R [.int n] H := ⟨n, rfl, h.1, h.2, r⟩
theorem n_2 {m n : Int} (h : -(2 ^ 62) ≤ m ∧ m < 2 ^ 62 ∧ -(2 ^ 62) ≤ n ∧ n < 2 ^ 62) (r : R (Itr m (n - m).toNat) H) : nQ2 R [.int m, .int n] H := ⟨m, n, rfl, h, r⟩
theorem walk_P {k1 k2 : Sk} {n : Nat} (hn : n = min xs.length ys.length) : Walk (ItP K k1 k2 a b) n (fun H => k1.at K H a xs ∧ k2.at K H b ys) (YPair (fun i => xs[i]?) (fun i => ys[i]?)) := by
  subst hn
  refine ⟨fun i _ hi q => ?_, fun _ q => ⟨xs, ys, q.1, q.2, rfl⟩, fun i H v H' _ q y => ?_⟩
  · have h1 : i < xs.length := by omega
    have h2 : i < ys.length := by omega
    exact ⟨xs, ys, xs[i], ys[i], q.1, q.2, List.getElem?_eq_getElem h1, List.getElem?_eq_getElem h2⟩
  · obtain ⟨T, x, z, h1, h2, h3, h4, h5⟩ := y
    exact ⟨T, x, z, h1, h2, h3, h4 xs q.1, h5 ys q.2⟩
theorem walk_E {k : Sk} : Walk (ItE K k a) xs.length (fun H => k.at K H a xs) (YPair (fun i => some (.int (i : Nat))) (fun i => xs[i]?)) := by
  refine ⟨fun i _ hi q => ⟨xs, xs[i], q, List.getElem?_eq_getElem hi⟩, fun _ q => ⟨xs, q, rfl⟩, fun i H v H' _ q y => ?_⟩
  obtain ⟨T, x, h1, h2, h3, h4⟩ := y
  exact ⟨T, .int (i : Nat), x, h1, h2, h3, rfl, h4 xs q⟩
end
/-! a for by its walk -/
section
variable {σ : St} {H : Hp} {D : Ends} {K : PySem.W.Frag} {g : TG} {tb : TS} {J : It} {n : Nat} {G : Hp → Prop} {Y : Nat → Hp → V → Hp → Prop}
theorem f_it (w : Walk J n G Y) (Pv : Nat → St → Hp → Prop) (h0 : Pv 0 σ H) (hG : ∀ i σ H, i ≤ n → Pv i σ H → G H)
    (hs : ∀ i x σ H H', i < n → Pv i σ H → Y i H x H' → g x σ H' fun σ2 H2 => tb { D with nx := Pv (i + 1), ct := Pv (i + 1), bk := D.nx } σ2 H2) (hd : ∀ σ H, Pv n σ H → D.nx σ H) : FQ g tb D σ J H := for_it w Pv h0 hG hs hd
/-- a range by one name -/
theorem f_rng {lo : Int} {j : Nat} (Pv : Nat → St → Hp → Prop) (h0 : Pv 0 σ H)
    (hs : ∀ (i : Nat) σ H, i < n → Pv i σ H → tb { D with nx := Pv (i + 1), ct := Pv (i + 1), bk := D.nx } (σ.set j (some (.int (lo + i)))) H) (hd : ∀ σ H, Pv n σ H → D.nx σ H) : FQ (gName j) tb D σ (Itr lo n) H :=
  for_range Pv h0 (fun i σ H hi p => hs i σ H hi p) hd
/-- a list or a tuple by one name -/
theorem f_seq {k : Sk} {a : Addr} {xs : List V} {j : Nat} (h : k.at K H a xs) (Pv : Nat → St → Hp → Prop) (h0 : Pv 0 σ H) (hG : ∀ i σ H, i ≤ xs.length → Pv i σ H → k.at K H a xs)
    (hs : ∀ i x σ H, xs[i]? = some x → Pv i σ H → tb { D with nx := Pv (i + 1), ct := Pv (i + 1), bk := D.nx } (σ.set j (some x)) H) (hd : ∀ σ H, Pv xs.length σ H → D.nx σ H) : sQ K (FQ (gName j) tb D σ) (.ref a) H :=
  s_S h (f_it walk_S Pv h0 hG (fun i x σ H H' _ p y => by
    obtain ⟨e, y⟩ := y
    subst e
    exact hs i x σ H' y p) hd)
/-- a pair's two names -/
theorem g_two {σ : St} {H : Hp} {K : PySem.W.Frag} {i j : Nat} {T : Addr} {x y : V} {Q : St → Hp → Prop} (q : Q ((σ.set i (some x)).set j (some y)) (upd H T (.tup [x, y]))) : gTup K 2 (gCons (gName i) (gCons (gName j) gNil)) (.ref T) σ (upd H T (.tup [x, y])) Q :=
  ⟨T, [x, y], rfl, sqT_new, rfl, x, [y], rfl, y, [], rfl, rfl, q⟩
/-- enumerate by two names -/
theorem f_enum {k : Sk} {a : Addr} {xs : List V} {j l : Nat} (h : k.at K H a xs) (Pv : Nat → St → Hp → Prop) (h0 : Pv 0 σ H) (hG : ∀ i σ H, i ≤ xs.length → Pv i σ H → k.at K H a xs)
    (hs : ∀ (i : Nat) x T σ H, xs[i]? = some x → Pv i σ H → H T = none → tb { D with nx := Pv (i + 1), ct := Pv (i + 1), bk := D.nx } ((σ.set j (some (.int (i : Nat)))).set l (some x)) (upd H T (.tup [.int (i : Nat), x]))) (hd : ∀ σ H, Pv xs.length σ H → D.nx σ H) :
    eQ K (FQ (gTup K 2 (gCons (gName j) (gCons (gName l) gNil))) tb D σ) [.ref a] H :=
  e_P h (f_it walk_E Pv h0 hG (fun i x σ H H' _ p y => by
    obtain ⟨T, u, v, e1, h1, e2, e3, e4⟩ := y
    obtain rfl := Option.some.inj e3
    subst e1 e2
    exact g_two (hs i v T σ H e4 p h1)) hd)
/-- zip by two names -/
theorem f_zip {k1 k2 : Sk} {a b : Addr} {xs ys : List V} {j l : Nat} (h1 : k1.at K H a xs) (h2 : k2.at K H b ys) (hn : n = min xs.length ys.length) (Pv : Nat → St → Hp → Prop) (h0 : Pv 0 σ H) (hG : ∀ i σ H, i ≤ n → Pv i σ H → k1.at K H a xs ∧ k2.at K H b ys)
    (hs : ∀ (i : Nat) x y T σ H, xs[i]? = some x → ys[i]? = some y → Pv i σ H → H T = none → tb { D with nx := Pv (i + 1), ct := Pv (i + 1), bk := D.nx } ((σ.set j (some x)).set l (some y)) (upd H T (.tup [x, y]))) (hd : ∀ σ H, Pv n σ H → D.nx σ H) :
    zQ K (FQ (gTup K 2 (gCons (gName j) (gCons (gName l) gNil))) tb D σ) [.ref a, .ref b] H :=
  z_P h1 h2 (f_it (walk_P hn) Pv h0 hG (fun i x σ H H' _ p y => by
    obtain ⟨T, u, v, e1, h1, e2, e3, e4⟩ := y
    subst e1 e2
    exact g_two (hs i u v T σ H e3 e4 p h1)) hd)
end
/-! a comprehension by its walk -/
section
variable {σ : St} {H : Hp} {Q : VK} {K : PySem.W.Frag} {g : TG} {tt : TT} {te : TE} {vs : List Nat} {J : It} {n : Nat} {G : Hp → Prop} {Y : Nat → Hp → V → Hp → Prop}
/-- nothing that stood changes; Φ is told of the items so far -/
theorem c_it (w : Walk J n G Y) (hn : n < 16000000) (hG : ∀ H', Ex H H' → G H') (Φ : Nat → List V → Hp → Prop) (h0 : ∀ H', Ex H H' → Φ 0 [] H')
    (st : ∀ L i acc H1 u u', H1 L = some (.lst u) → H L = none → Φ i acc H1 → Φ i acc (upd H1 L (.lst u')))
    (turn : ∀ i x acc H1 H2 (q : VK) (N : Hp → Prop), i < n → Ex H H1 → Φ i acc H1 → Y i H1 x H2 → (∀ y H4, Ex H1 H4 → Φ (i + 1) (acc ++ [y]) H4 → q y H4) → (∀ H3, Ex H1 H3 → Φ (i + 1) acc H3 → N H3) →
      g x (wipe σ vs) H2 fun σ2 H3 => wipe σ2 vs = wipe σ vs ∧ tt σ2 H3 fun b H4 => if b = true then te σ2 H4 q else N H4)
    (done : ∀ L acc H', H L = none → Ex H H' → H' L = some (.lst acc) → acc.length ≤ n → Φ n acc H' → Q (.ref L) H') : CQ g tt te vs σ Q J H := by
  intro L hL
  refine lc_it w (fun i H' => ∃ acc, Ex H H' ∧ H' L = some (.lst acc) ∧ acc.length ≤ i ∧ Φ i acc H') ⟨[], Ex.new hL, upd_same, Nat.le_refl _, h0 _ (Ex.new hL)⟩ (fun i H' _ p => hG H' p.choose_spec.1) ?_ ?_
  · rintro i x H1 H2 hi ⟨acc, e1, e2, e3, e4⟩ y
    refine turn i x acc H1 H2 _ _ hi e1 e4 y (fun z H4 e5 e6 => ⟨acc, e5 _ _ e2, Nat.lt_of_le_of_lt (Nat.le_trans e3 (by omega)) (show 16000000 < sizeLine by decide), acc ++ [z], ?_, upd_same, ?_, st L _ _ _ acc _ (e5 _ _ e2) hL e6⟩) fun H3 e5 e6 => ⟨acc, e1.trans e5, e5 _ _ e2, Nat.le_succ_of_le e3, e6⟩
    · intro b o hb
      have hne : b ≠ L := fun z => by rw [z, hL] at hb; cases hb
      exact (upd_ne hne).trans ((e1.trans e5) b o hb)
    · rw [List.length_append, List.length_singleton]; omega
  · rintro H' ⟨acc, e1, e2, e3, e4⟩
    exact done L acc H' hL e1 e2 e3 e4
/-- what each turn gives is known ahead: f i, or nothing -/
theorem c_fn (w : Walk J n G Y) (f : Nat → Option V) (hn : n < 16000000) (hG : ∀ H', Ex H H' → G H')
    (turn : ∀ i x H1 H2 (q : VK) (N : Hp → Prop), i < n → Ex H H1 → Y i H1 x H2 → (∀ y H4, f i = some y → Ex H1 H4 → q y H4) → (∀ H3, f i = none → Ex H1 H3 → N H3) →
      g x (wipe σ vs) H2 fun σ2 H3 => wipe σ2 vs = wipe σ vs ∧ tt σ2 H3 fun b H4 => if b = true then te σ2 H4 q else N H4)
    (done : ∀ L H', H L = none → Ex H H' → H' L = some (.lst ((List.range n).filterMap f)) → Q (.ref L) H') : CQ g tt te vs σ Q J H := by
  refine c_it w hn hG (fun i acc _ => acc = (List.range i).filterMap f) (fun _ _ => rfl) (fun _ _ _ _ _ _ _ _ e => e) ?_ ?_
  · intro i x acc H1 H2 q N hi e1 e2 y hq hN
    refine turn i x H1 H2 q N hi e1 y (fun z H4 e3 e4 => hq z H4 e4 ?_) fun H3 e3 e4 => hN H3 e4 ?_
    · rw [List.range_succ, List.filterMap_append, ← e2]
      show _ = acc ++ (List.filterMap f [i])
      rw [List.filterMap_cons, e3]; rfl
    · rw [List.range_succ, List.filterMap_append, ← e2]
      show _ = acc ++ (List.filterMap f [i])
      rw [List.filterMap_cons, e3]; exact (List.append_nil _).symm
  · intro L acc H' hL e1 e2 _ e4
    rw [e4] at e2
    exact done L H' hL e1 e2
theorem range_fm {α β : Type} (xs : List β) (h : β → Option α) : (List.range xs.length).filterMap (fun i => xs[i]?.bind h) = xs.filterMap h := by
  induction xs with
  | nil => rfl
  | cons x xs ih =>
    rw [List.length_cons, List.range_succ_eq_map, List.filterMap_cons, List.filterMap_map]
    show (match h x with | none => _ | some b => _) = _
    rw [List.filterMap_cons, ← ih]; rfl
/-- over a list or a tuple, by one name, what it gives is a function of the item -/
theorem c_seq {k : Sk} {a : Addr} {xs : List V} {j : Nat} (h : k.at K H a xs) (f : V → Option V) (hn : xs.length < 16000000) (hG : ∀ H', Ex H H' → k.at K H' a xs) (hw : ∀ x, wipe ((wipe σ vs).set j (some x)) vs = wipe σ vs)
    (turn : ∀ x H1 (q : VK) (N : Hp → Prop), x ∈ xs → Ex H H1 → (∀ y H4, f x = some y → Ex H1 H4 → q y H4) → (∀ H3, f x = none → Ex H1 H3 → N H3) →
      tt ((wipe σ vs).set j (some x)) H1 fun b H4 => if b = true then te ((wipe σ vs).set j (some x)) H4 q else N H4)
    (done : ∀ L H', H L = none → Ex H H' → H' L = some (.lst (xs.filterMap f)) → Q (.ref L) H') : sQ K (CQ (gName j) tt te vs σ Q) (.ref a) H :=
  s_S h (c_fn walk_S (fun i => xs[i]?.bind f) hn hG (fun i x H1 H2 q N hi e1 y hq hN => by
    obtain ⟨e2, y⟩ := y
    subst e2
    refine ⟨hw x, turn x H2 q N (List.mem_of_getElem? y) e1 (fun z H4 e3 e4 => hq z H4 (by rw [y]; exact e3) e4) fun H3 e3 e4 => hN H3 (by rw [y]; exact e3) e4⟩)
    (fun L H' h1 h2 h3 => done L H' h1 h2 (by rw [← range_fm]; exact h3)))
/-- over zip, by two names -/
theorem c_zip {k1 k2 : Sk} {a b : Addr} {xs ys : List V} {j l : Nat} (h1 : k1.at K H a xs) (h2 : k2.at K H b ys) (f : V → V → Option V) (hl : xs.length = ys.length) (hn : xs.length < 16000000) (hG : ∀ H', Ex H H' → k1.at K H' a xs ∧ k2.at K H' b ys)
    (hw : ∀ x y, wipe (((wipe σ vs).set j (some x)).set l (some y)) vs = wipe σ vs)
    (turn : ∀ x y T H1 (q : VK) (N : Hp → Prop), (x, y) ∈ xs.zip ys → Ex H H1 → H1 T = none → (∀ z H4, f x y = some z → Ex H1 H4 → q z H4) → (∀ H3, f x y = none → Ex H1 H3 → N H3) →
      tt (((wipe σ vs).set j (some x)).set l (some y)) (upd H1 T (.tup [x, y])) fun b H4 => if b = true then te (((wipe σ vs).set j (some x)).set l (some y)) H4 q else N H4)
    (done : ∀ L H', H L = none → Ex H H' → H' L = some (.lst ((xs.zip ys).filterMap fun z => f z.1 z.2)) → Q (.ref L) H') : zQ K (CQ (gTup K 2 (gCons (gName j) (gCons (gName l) gNil))) tt te vs σ Q) [.ref a, .ref b] H := by
  have hz : (xs.zip ys).length = xs.length := by rw [List.length_zip]; omega
  refine z_P h1 h2 (c_fn (walk_P (n := xs.length) (by omega)) (fun i => (xs.zip ys)[i]?.bind fun z => f z.1 z.2) hn hG (fun i x H1 H2 q N hi e1 y hq hN => ?_) (fun L H' h1 h2 h3 => done L H' h1 h2 ?_))
  · obtain ⟨T, u, v, e2, e3, e4, e5, e6⟩ := y
    subst e2 e4
    have ez : (xs.zip ys)[i]? = some (u, v) := by
      rw [List.getElem?_zip_eq_some]
      exact ⟨e5, e6⟩
    exact g_two ⟨hw u v, turn u v T H1 q N (List.mem_of_getElem? ez) e1 e3 (fun z H4 e7 e8 => hq z H4 (by rw [ez]; exact e7) e8) fun H3 e7 e8 => hN H3 (by rw [ez]; exact e7) e8⟩
  · rw [← hz] at h3
    rw [h3]
    rw [range_fm (xs.zip ys) fun z => f z.1 z.2]
theorem Sk.ex {H H' : Hp} {a : Addr} {xs : List V} (k : Sk) (e : Ex H H') (h : k.at K H a xs) : k.at K H' a xs := by
  cases k with
  | l => exact sqL_ex e h
  | t => exact sqT_ex e h
/-- ints to ints -/
theorem c_seqI {k : Sk} {a : Addr} {ns : List Int} {j : Nat} (h : k.at K H a (ns.map V.int)) (f : Int → Int) (hn : ns.length < 16000000) (hw : ∀ x, wipe ((wipe σ vs).set j (some x)) vs = wipe σ vs)
    (turn : ∀ x H1 (q : VK) (N : Hp → Prop), x ∈ ns → Ex H H1 → (∀ H4, Ex H1 H4 → q (.int (f x)) H4) → tt ((wipe σ vs).set j (some (.int x))) H1 fun b H4 => if b = true then te ((wipe σ vs).set j (some (.int x))) H4 q else N H4)
    (done : ∀ L H', H L = none → Ex H H' → H' L = some (.lst ((ns.map f).map V.int)) → Q (.ref L) H') : sQ K (CQ (gName j) tt te vs σ Q) (.ref a) H := by
  refine c_seq h (fun v => match v with | .int i => some (.int (f i)) | _ => none) (by rw [List.length_map]; exact hn) (fun H' e => k.ex e h) hw (fun x H1 q N hx e hq _ => ?_) fun L H' h1 h2 h3 => done L H' h1 h2 ?_
  · obtain ⟨n, hn, rfl⟩ := List.mem_map.mp hx
    exact turn n H1 q N hn e fun H4 e4 => hq _ H4 rfl e4
  · rw [h3]
    congr 2
    clear h3 h hn turn done
    induction ns with
    | nil => rfl
    | cons n ns ih => rw [List.map_cons, List.filterMap_cons, ih]; rfl
/-- ints to truths -/
theorem c_seqB {k : Sk} {a : Addr} {ns : List Int} {j : Nat} (h : k.at K H a (ns.map V.int)) (f : Int → Bool) (hn : ns.length < 16000000) (hw : ∀ x, wipe ((wipe σ vs).set j (some x)) vs = wipe σ vs)
    (turn : ∀ x H1 (q : VK) (N : Hp → Prop), x ∈ ns → Ex H H1 → (∀ H4, Ex H1 H4 → q (.bl (f x)) H4) → tt ((wipe σ vs).set j (some (.int x))) H1 fun b H4 => if b = true then te ((wipe σ vs).set j (some (.int x))) H4 q else N H4)
    (done : ∀ L H', H L = none → Ex H H' → H' L = some (.lst ((ns.map f).map V.bl)) → Q (.ref L) H') : sQ K (CQ (gName j) tt te vs σ Q) (.ref a) H := by
  refine c_seq h (fun v => match v with | .int i => some (.bl (f i)) | _ => none) (by rw [List.length_map]; exact hn) (fun H' e => k.ex e h) hw (fun x H1 q N hx e hq _ => ?_) fun L H' h1 h2 h3 => done L H' h1 h2 ?_
  · obtain ⟨n, hn, rfl⟩ := List.mem_map.mp hx
    exact turn n H1 q N hn e fun H4 e4 => hq _ H4 rfl e4
  · rw [h3]
    congr 2
    clear h3 h hn turn done
    induction ns with
    | nil => rfl
    | cons n ns ih => rw [List.map_cons, List.filterMap_cons, ih]; rfl
theorem zip_I (f : Int → Int → Int) : ∀ gs as : List Int, (((gs.map V.int).zip (as.map V.int)).filterMap fun z => (match z.1, z.2 with | .int i, .int j => some (V.int (f i j)) | _, _ => none)) = ((gs.zip as).map fun p => f p.1 p.2).map V.int
  | [], _ => rfl
  | _ :: _, [] => rfl
  | g :: gs, a :: as => by
    rw [List.map_cons, List.map_cons, List.zip_cons_cons, List.zip_cons_cons, List.filterMap_cons, zip_I f gs as]; rfl
theorem mem_zipI : ∀ {gs as : List Int} {x y : V}, (x, y) ∈ (gs.map V.int).zip (as.map V.int) → ∃ i j, x = .int i ∧ y = .int j ∧ (i, j) ∈ gs.zip as
  | [], _, x, y, h => by rw [List.map_nil, List.zip_nil_left] at h; cases h
  | _ :: _, [], x, y, h => by rw [List.map_nil, List.zip_nil_right] at h; cases h
  | g :: gs, a :: as, x, y, h => by
    rw [List.map_cons, List.map_cons, List.zip_cons_cons, List.mem_cons] at h
    rcases h with h | h
    · cases h; exact ⟨g, a, rfl, rfl, List.mem_cons_self ..⟩
    · obtain ⟨i, j, h1, h2, h3⟩ := mem_zipI h
      exact ⟨i, j, h1, h2, List.mem_cons_of_mem _ h3⟩
/-- two sources of ints to ints -/
theorem c_zipI {k1 k2 : Sk} {a b : Addr} {gs as : List Int} {j l : Nat} (h1 : k1.at K H a (gs.map V.int)) (h2 : k2.at K H b (as.map V.int)) (f : Int → Int → Int) (hl : gs.length = as.length) (hn : gs.length < 16000000)
    (hw : ∀ x y, wipe (((wipe σ vs).set j (some x)).set l (some y)) vs = wipe σ vs)
    (turn : ∀ x y T H1 (q : VK) (N : Hp → Prop), (x, y) ∈ gs.zip as → Ex H H1 → H1 T = none → (∀ H4, Ex H1 H4 → q (.int (f x y)) H4) →
      tt (((wipe σ vs).set j (some (.int x))).set l (some (.int y))) (upd H1 T (.tup [.int x, .int y])) fun b H4 => if b = true then te (((wipe σ vs).set j (some (.int x))).set l (some (.int y))) H4 q else N H4)
    (done : ∀ L H', H L = none → Ex H H' → H' L = some (.lst (((gs.zip as).map fun p => f p.1 p.2).map V.int)) → Q (.ref L) H') : zQ K (CQ (gTup K 2 (gCons (gName j) (gCons (gName l) gNil))) tt te vs σ Q) [.ref a, .ref b] H := by
  refine c_zip h1 h2 (fun u v => match u, v with | .int i, .int j => some (V.int (f i j)) | _, _ => none) (by rw [List.length_map, List.length_map]; exact hl) (by rw [List.length_map]; exact hn) (fun H' e => ⟨k1.ex e h1, k2.ex e h2⟩) hw (fun x y T H1 q N hx e hT hq _ => ?_)
    fun L H' d1 d2 d3 => done L H' d1 d2 (by rw [d3, zip_I])
  obtain ⟨i, j, rfl, rfl, hm⟩ := mem_zipI hx
  exact turn i j T H1 q N hm e hT fun H4 e4 => hq _ H4 rfl e4
end
section
variable {σ : St} {H : Hp} {D : Ends} {c : TT} {tb : TS} {ta : TA} {i j : Nat} {x y : V}
theorem r_while (W : Nat → St → Hp → Prop) (m : Nat) (h0 : W m σ H)
    (hs : ∀ m σ H, W m σ H → c σ H fun b H1 => if b = true then ∃ N : St → Hp → Prop, (∀ σ' H', N σ' H' → ∃ m', m' < m ∧ W m' σ' H') ∧ tb { D with nx := N, ct := N, bk := D.nx } σ H1 else D.nx σ H1) : tWhile c tb D σ H := ⟨W, ⟨m, h0⟩, hs⟩
theorem r_wN {W : Nat → St → Hp → Prop} {m : Nat} (q : tb { D with nx := fun σ' H' => ∃ m', m' < m ∧ W m' σ' H', ct := fun σ' H' => ∃ m', m' < m ∧ W m' σ' H', bk := D.nx } σ H) :
    ∃ N : St → Hp → Prop, (∀ σ' H', N σ' H' → ∃ m', m' < m ∧ W m' σ' H') ∧ tb { D with nx := N, ct := N, bk := D.nx } σ H := ⟨_, fun _ _ p => p, q⟩
def pQ (i j : Nat) (D : Ends) (σ : St) : List V → Hp → Prop := fun vs H1 => ∃ v w, vs = [v, w] ∧ D.nx ((σ.set i (some v)).set j (some w)) H1
theorem r_par (h : ta σ H (pQ i j D σ)) : tPar i j ta D σ H := h
theorem r_pQ (h : D.nx ((σ.set i (some x)).set j (some y)) H) : pQ i j D σ [x, y] H := ⟨x, y, rfl, h⟩
theorem ix_nat {n i : Nat} (h : i < n) : ixN n (i : Int) = some i := by
  unfold ixN
  rw [if_pos (by omega), if_pos (by omega)]; simp
theorem r_setL {p : Addr} {xs : List V} {i : Nat} {v : V} {H : Hp} {Q : Hp → Prop} (h : H p = some (.lst xs)) (n : i < xs.length) (q : Q (upd H p (.lst (xs.set i v)))) : rSetL (.ref p) (.int (i : Nat)) v H Q := ⟨p, xs, _, i, rfl, rfl, h, ix_nat n, q⟩
theorem r_getL {K : PySem.W.Frag} {p : Addr} {xs : List V} {i : Nat} {v : V} {H : Hp} {Q : VK} (h : SqL K H p xs) (e : xs[i]? = some v) (q : Q v H) : rIxL K (.ref p) (.int (i : Nat)) H Q := ⟨p, xs, _, v, rfl, rfl, h, atI_nat e, q⟩
theorem r_augS {to ti te : TE} {tget : V → V → Hp → VK → Prop} {tip : TIp} {tset : TSet} (h : to σ H fun o H1 => ti σ H1 fun i H2 => tget o i H2 fun x H3 => te σ H3 fun y H4 => tip x y H4 fun z H5 => tset o i z H5 fun H6 => D.nx σ H6) : tAugS to ti te tget tip tset D σ H := h
theorem r_gsub {to ti : TE} {t : TSet} {v : V} {Q : St → Hp → Prop} (h : to σ H fun o H1 => ti σ H1 fun i H2 => t o i v H2 fun H3 => Q σ H3) : gSub to ti t v σ H Q := h
theorem r_sl {r : V → Option Int → Option Int → Hp → VK → Prop} {te : TE} {tl th : TO} {Q : VK} (h : te σ H fun x H1 => tl σ H1 fun l H2 => th σ H2 fun u H3 => r x l u H3 Q) : tSl r te tl th σ H Q := h
theorem r_part {t : TE} {Q : Option Int → Hp → Prop} (h : t σ H fun x H1 => ∃ i, x = .int i ∧ Q (some i) H1) : tPart t σ H Q := h
theorem r_nopart {Q : Option Int → Hp → Prop} (h : Q none H) : tNoPart σ H Q := h
theorem r_parI {n : Int} {P : Int → Prop} (h : P n) : ∃ i, V.int n = .int i ∧ P i := ⟨n, rfl, h⟩
end
section
variable {H : Hp} {Q : VK} {K : PySem.W.Frag} {a b : Addr} {xs ys : List V} {ns : List Int}
theorem r_ixS {k : Sk} {i : Nat} {v : V} (h : k.at K H a xs) (e : xs[i]? = some v) (q : Q v H) : rIxA K (.ref a) (.int (i : Nat)) H Q := by
  cases k with
  | l => exact r_ixL h (atI_nat e) q
  | t => exact r_ixT h (atI_nat e) q
theorem r_lenS {k : Sk} (h : k.at K H a xs) (q : Q (.int xs.length) H) : rLenA K [V.ref a] H Q := by
  cases k with
  | l => exact r_lenL h q
  | t => exact r_lenT h q
theorem Sk.exb {H H' : Hp} {a d : Addr} {xs : List V} (k : Sk) (e : ExB d H H') (n : a ≠ d) (h : k.at K H a xs) : k.at K H' a xs := by
  cases k with
  | l => exact sqL_exb e n h
  | t => exact sqT_exb e n h
theorem cut_map (lo hi : Option Int) : ∃ m n, cutV (ns.map V.int) lo hi = ((ns.drop m).take n).map V.int := ⟨_, _, by
  unfold cutV
  rw [List.map_take, List.map_drop]⟩
theorem r_slL {lo hi : Option Int} (h : SqL K H a xs) (q : ∀ p, H p = none → Q (.ref p) (upd H p (.lst (cutV xs lo hi)))) : rSlcA K (.ref a) lo hi H Q := .inl ⟨a, xs, rfl, h, q⟩
theorem r_catL (h1 : H a = some (.lst xs)) (h2 : H b = some (.lst ys)) (n : xs.length + ys.length ≤ sizeLine) (q : ∀ p, H p = none → Q (.ref p) (upd H p (.lst (xs ++ ys)))) : rAddA K (.ref a) (.ref b) H Q := .inr (.inl ⟨a, b, xs, ys, rfl, rfl, h1, h2, n, q⟩)
end
/-- either way an int -/
theorem r_split {σ : St} {H : Hp} {ta tb : TE} {Q : VK} {p : Prop} [Decidable p] (main : ∀ i : Int, Q (.int i) H) (h1 : p → (∀ i : Int, Q (.int i) H) → ta σ H Q) (h2 : ¬ p → (∀ i : Int, Q (.int i) H) → tb σ H Q) : if decide p = true then ta σ H Q else tb σ H Q :=
  r_D (fun c => h1 c main) (fun c => h2 c main)
/-! ### the dice of the laws -/
/-- the dice at d, rolled n times at most -/
def Dice (n : Nat) (H : Hp) (d : Addr) : Prop := ∃ x y z : Int, H d = some (.lst ([x, y, z].map V.int)) ∧ 0 ≤ x ∧ 0 ≤ y ∧ y < 2147480009 ∧ 0 ≤ z ∧ z ≤ n
theorem Dice.ex {n : Nat} {H H' : Hp} {d : Addr} (e : Ex H H') (h : Dice n H d) : Dice n H' d := by
  obtain ⟨x, y, z, h, r⟩ := h
  exact ⟨x, y, z, e _ _ h, r⟩
theorem Dice.ne {n : Nat} {H : Hp} {d p : Addr} (h : Dice n H d) (q : H p = none) : p ≠ d := fun e => by
  obtain ⟨x, y, z, h, r⟩ := h
  rw [← e, q] at h
  cases h
theorem Dice.exb {n : Nat} {H H' : Hp} {d p : Addr} (h : Dice n H d) (e : ExB d H H') (q : H' p = none) (h' : Dice (n + 1) H' d) : H p = none := by
  cases hp : H p with
  | none => rfl
  | some o =>
    have := e p o (h'.ne q) hp
    rw [q] at this; cases this
theorem Dice.mono {m n : Nat} {H : Hp} {d : Addr} (l : m ≤ n) (h : Dice m H d) : Dice n H d := by
  obtain ⟨x, y, z, h, h1, h2, h3, h4, h5⟩ := h
  exact ⟨x, y, z, h, h1, h2, h3, h4, by omega⟩
theorem IsTy.ex {K : PySem.W.Frag} {H H' : Hp} {v : V} {T : String} (e : Ex H H') (h : IsTy K H v T) : IsTy K H' v T := by
  obtain ⟨h, m⟩ := h
  refine ⟨?_, m⟩
  generalize ht : Value.type T = t at h
  cases h with
  | base b =>
    cases b with
    | non => exact .base .non
    | bl b => exact .base (.bl b)
    | int i => exact .base (.int i)
    | str x => exact .base (.str x)
    | flt x => exact .base (.flt x)
    | lst q => exact .base (.lst (e _ _ q))
    | frz q => exact .base (.frz (e _ _ q))
    | tup q => exact .base (.tup (e _ _ q))
    | dK q => exact .base (.dK (e _ _ q))
    | dT q => exact .base (.dT (e _ _ q))
    | ins => cases ht
  | byt b => exact .byt b
  | set q => exact .set (e _ _ q)
  | kList q c => exact .kList q c
  | kTuple q c => exact .kTuple q c
  | kDict q c => exact .kDict q c
  | fTuple q => exact .fTuple (e _ _ q)
  | fDict q => exact .fDict (e _ _ q)
/-- is a thing of type T one of c -/
def isT (T c : String) : Bool := T == c || (T == "bool" && c == "int")
theorem kit_all : ∀ T ∈ tyNames, ∀ c ∈ tyNames, kitB T c = some (isT T c) := by decide +kernel
theorem r_isiK {K : PySem.W.Frag} {H : Hp} {v : V} {T c : String} {Q : VK} (ty : IsTy K H v T) (hc : c ∈ tyNames) (q : Q (.bl (isT T c)) H) : rIsi K [v, .ty c] H Q := r_isi ty (kit_all T ty.2 c hc) q
end PB

/-! PK: the rules with the frame K named (a comprehension's own scope must not be in the reading). -/
namespace PB
open PySem PySem.Spec L2
open PyProof.Rows hiding St
section
variable {X : Cx} {K : PySem.W.Frag} {j : Nat}
theorem k_lt (eK : X.K = K) (hr : Room j X.A) : OpR X (compareOp .Lt) (rCmpA K (fun i j => decide (i < j)) fun d e => PySem.W.dataLt d e) := by subst eK; exact op_ltA hr
theorem k_gt (eK : X.K = K) (hr : Room j X.A) : OpR X (compareOp .Gt) (rCmpA K (fun i j => decide (j < i)) fun d e => PySem.W.dataLt e d) := by subst eK; exact op_gtA hr
theorem k_le (eK : X.K = K) (hr : Room j X.A) : OpR X (compareOp .LtE) (rCmpA K (fun i j => decide (i ≤ j)) fun d e => !PySem.W.dataLt e d) := by subst eK; exact op_leA hr
theorem k_ge (eK : X.K = K) (hr : Room j X.A) : OpR X (compareOp .GtE) (rCmpA K (fun i j => decide (j ≤ i)) fun d e => !PySem.W.dataLt d e) := by subst eK; exact op_geA hr
theorem k_eq (eK : X.K = K) (hr : Room j X.A) : OpR X (compareOp .Eq) (rEqA K) := by subst eK; exact op_eqA hr
theorem k_ne (eK : X.K = K) (hr : Room j X.A) : OpR X (compareOp .NotEq) (rNeA K) := by subst eK; exact op_neA hr
theorem k_in (eK : X.K = K) (hr : Room j X.A) : OpR X (compareOp .In) (rInA K) := by subst eK; exact op_inA hr
theorem k_nin (eK : X.K = K) (hr : Room j X.A) : OpR X (compareOp .NotIn) (rNinA K) := by subst eK; exact op_ninA hr
theorem k_add (eK : X.K = K) : OpR X (binaryOp .Add) (rAddA K) := by subst eK; exact op_addA
theorem k_mul (eK : X.K = K) : OpR X (binaryOp .Mult) (rMulA K) := by subst eK; exact op_mulA
theorem k_sum (eK : X.K = K) (hc : X.calm = true) : CallR X (.builtin "sum") (rSumA K) := by subst eK; exact cr_sumA hc
theorem k_sorted (eK : X.K = K) : CallR X (.builtin "sorted") (rSortedA K) := by subst eK; exact cr_sortedA
theorem k_len (eK : X.K = K) : CallR X (.builtin "len") (rLenA K) := by subst eK; exact cr_len
theorem k_isi (eK : X.K = K) : CallR X (.builtin "isinstance") (rIsi K) := by subst eK; exact call_isi
theorem k_all (eK : X.K = K) (hc : X.calm = true) : CallR X (.builtin "all") (rAll K) := by subst eK; exact cr_all hc
theorem k_any (eK : X.K = K) (hc : X.calm = true) : CallR X (.builtin "any") (rAny K) := by subst eK; exact cr_any hc
theorem k_tuple (eK : X.K = K) : CallR X (.type "tuple") (rTupA K) := by subst eK; exact cr_tuple
theorem k_list (eK : X.K = K) : CallR X (.type "list") (rListA K) := by subst eK; exact cr_list
theorem k_ix (eK : X.K = K) : IxR X (rIxA K) := by subst eK; exact ix_A
theorem k_sl (eK : X.K = K) : SlR X (rSlcA K) := by subst eK; exact sl_A
theorem k_get (eK : X.K = K) : PGet X (rIxL K) := by subst eK; exact get_list
def tTru (K : PySem.W.Frag) (ta : TE) : TT := fun σ H Q => ta σ H fun x H' => ∃ k, TruV K x H' k ∧ Q k H'
theorem k_truth {a : Expr} {ta : TE} (eK : X.K = K) (ha : PE X a ta) (he : ∀ whole, isTrue a X.env whole = (do let v ← whole; standAt a.pos; holding [v] (truthy v))) : PT X a (tTru K ta) := by
  subst eK
  exact pt_truth ha he
theorem k_seq {tg l : Expr} {tl : TE} (eK : X.K = K) (hl : PE X l tl) : PI X tg l (iSeq K tl) := by subst eK; exact pi_seq hl
theorem k_zip {e e2 : Expr} {ta : TA} {p pos tpos : Pos} {elts : List Expr} {kk : Nat} (eK : X.K = K) (hg : Gl X "zip") (hm : X.mg "zip" = none) (ha : PA X [e, e2] ta)
    (hs : starEach [e, e2] X.env = (false, eval e X.env) :: starEach [e2] X.env := by rfl) (hpl : (backTo pos (starEach [e2] X.env)).any (·.1) = false := by rfl) :
    PI X (.Tuple elts kk tpos) (.Call (.Name "zip" p) [e, e2] [] pos) (iZipM K ta) := by
  subst eK
  exact pi_zipM hg hm ha hs hpl
theorem k_enum {e : Expr} {ta : TA} {p pos tpos : Pos} {elts : List Expr} {kk : Nat} (eK : X.K = K) (cl : X.calm = true) (hm : X.mg "enumerate" = none) (ha : PA X [e] ta) (hg : Gl X "enumerate" := by rfl) (hs : starEach [e] X.env = [(false, eval e X.env)] := by rfl) :
    PI X (.Tuple elts kk tpos) (.Call (.Name "enumerate" p) [e] [] pos) (iEnumM K ta) := by
  subst eK
  exact pi_enumM cl hm ha hg hs
theorem k_two {i j kk : Nat} {x y : Str} {px py pos : Pos} (eK : X.K = K) (hN : X.N.Nodup) (hi : X.N[i]? = some x) (hj : X.N[j]? = some y) (lx : Loc X.env.scope x) (ly : Loc X.env.scope y)
    (fx : X.fn x = true ∨ X.env.scope.names.lookup x = some .local) (fy : X.fn y = true ∨ X.env.scope.names.lookup y = some .local) (hc : X.calm = true) : PG X (.Tuple [.Name x px, .Name y py] kk pos) (gTup K 2 (gCons (gName i) (gCons (gName j) gNil))) := by
  subst eK
  exact pg_two hc hN hi hj lx ly fx fy
theorem k_three {i j l kk : Nat} {x y z : Str} {px py pz pos : Pos} (eK : X.K = K) (hN : X.N.Nodup) (hi : X.N[i]? = some x) (hj : X.N[j]? = some y) (hl : X.N[l]? = some z) (lx : Loc X.env.scope x) (ly : Loc X.env.scope y) (lz : Loc X.env.scope z)
    (fx : X.fn x = true ∨ X.env.scope.names.lookup x = some .local) (fy : X.fn y = true ∨ X.env.scope.names.lookup y = some .local) (fz : X.fn z = true ∨ X.env.scope.names.lookup z = some .local) (hc : X.calm = true) : PG X (.Tuple [.Name x px, .Name y py, .Name z pz] kk pos) (gTup K 3 (gCons (gName i) (gCons (gName j) (gCons (gName l) gNil)))) := by
  subst eK
  exact pg_three hc hN hi hj hl lx ly lz fx fy fz
theorem k_tup {es : List Expr} {k n : Nat} {t : TGs} {pos : Pos} (eK : X.K = K) (hc : X.calm = true) (h : PGs X es t) (hn : (assignEach es X.env).length = n := by rfl) (hst : (assignEach es X.env).findIdx? (·.1) = none := by rfl) : PG X (.Tuple es k pos) (gTup K n t) := by
  subst eK
  exact pg_tup hc h hn hst
theorem k_append {o e : Expr} {to te : TE} {apos cpos : Pos} (eK : X.K = K) (ho : PE X o to) (ha : PE X e te) (hbase : attributeBase o "append" X.env (eval o X.env) = eval o X.env := by rfl)
    (hfew : ((backTo cpos (starEach [e] X.env)).all (fun x => !x.1) && (backToKw cpos (keywordEach [] X.env)).all (fun x => x.1.isSome) && decide ([e].length + ([] : List Keyword).length + (if ([] : List Keyword).isEmpty then 0 else 1) < 30)) = true := by rfl)
    (hline : (apos.endLine == cpos.line) = true := by rfl) (hs : starEach [e] X.env = (false, eval e X.env) :: starEach [] X.env := by rfl) :
    PE X (.Call (.Attribute o "append" apos) [e] [] cpos) (tBM K "list" rAppend to (tCons te tNil)) := by
  subst eK
  exact pe_bm PySem.F.plainAttrs_list PySem.F.slot_list_append PySem.F.type_list_append mt_append ho (pa_cons ha pa_nil hs) hbase hfew hline hs rfl
end
section
variable {K : PySem.W.Frag} {σ : St} {H : Hp} {Q : VK} {ta : TE} {a : Addr} {xs : List V} {v : V}
theorem r_tru {Q : Bool → Hp → Prop} (h : ta σ H fun x H' => ∃ k, TruV K x H' k ∧ Q k H') : tTru K ta σ H Q := h
/-- xs.append(v) -/
theorem r_bm {T : String} {r : V → List V → Hp → VK → Prop} {t : TA} (h : ta σ H fun x H1 => tyV K T x H1 ∧ t σ H1 fun xs H2 => r x xs H2 Q) : tBM K T r ta t σ H Q := h
theorem r_app (h : H a = some (.lst xs)) (n : xs.length < sizeLine) (q : Q .non (upd H a (.lst (xs ++ [v])))) : rAppend (.ref a) [v] H Q := ⟨a, xs, v, rfl, rfl, h, n, q⟩
end
end PB

/-! PD: rows of ints as data: ==, !=, in, <, sorted. -/
namespace PB
open PySem PySem.Spec L2
open PyProof.Rows hiding St
section
variable {K : PySem.W.Frag} {H H' : Hp} {a b : Addr} {ns ms : List Int} {Q : VK}
/-- ints as data -/
def dI (ns : List Int) : List PyData := ns.map .int
theorem dp_I : ∀ ns : List Int, DpAll K H (ns.map V.int) (dI ns)
  | [] => .nil
  | n :: ns => .cons (.int n) (dp_I ns)
theorem dp_t (h : SqT K H a (ns.map V.int)) : Dp K H (.ref a) (.tuple (dI ns)) := .tup h (dp_I ns)
theorem dp_l (h : SqL K H a (ns.map V.int)) : Dp K H (.ref a) (.list (dI ns)) := .lst h (dp_I ns)
theorem lay_I : ∀ ns : List Int, PyData.canLayAll0 (dI ns) = true
  | [] => by unfold dI; rw [List.map_nil]; simp only [PyData.canLayAll0]
  | n :: ns => by
    have := lay_I ns
    unfold dI at this ⊢
    rw [List.map_cons]
    simp only [PyData.canLayAll0, PyData.canLay0, this, Bool.and_self]
theorem dep_I : ∀ ns : List Int, PyData.depthAll (dI ns) = 0
  | [] => by unfold dI; rw [List.map_nil]; simp only [PyData.depthAll]
  | n :: ns => by
    have := dep_I ns
    unfold dI at this ⊢
    rw [List.map_cons]
    simp only [PyData.depthAll, PyData.depth, this, Nat.max_self]
theorem sh_of {d : PyData} (h : d.canLay0 = true) (e : d.depth ≤ 64) : SeqAt.shaped d = true := by
  unfold SeqAt.shaped
  rw [h, decide_eq_true e]; rfl
theorem dep_t : PyData.depth (.tuple (dI ns)) = 1 := by simp only [PyData.depth, dep_I]
theorem dep_l : PyData.depth (.list (dI ns)) = 1 := by simp only [PyData.depth, dep_I]
theorem sh_t : SeqAt.shaped (.tuple (dI ns)) = true := sh_of (by simp only [PyData.canLay0, lay_I]) (by rw [dep_t]; decide)
theorem sh_l : SeqAt.shaped (.list (dI ns)) = true := sh_of (by simp only [PyData.canLay0, lay_I]) (by rw [dep_l]; decide)
theorem ali_I : ∀ ns ms : List Int, PySem.W.alikeAll (dI ns) (dI ms) = true
  | [], [] => by unfold dI; simp only [List.map_nil, PySem.W.alikeAll]
  | [], _ :: _ => by unfold dI; simp only [List.map_nil, List.map_cons, PySem.W.alikeAll]
  | _ :: _, [] => by unfold dI; simp only [List.map_nil, List.map_cons, PySem.W.alikeAll]
  | n :: ns, m :: ms => by
    have := ali_I ns ms
    unfold dI at this ⊢
    simp only [List.map_cons, PySem.W.alikeAll, PySem.W.alike, this, Bool.and_self]
theorem eqv_I : ∀ ns ms : List Int, PyData.eqvAll (dI ns) (dI ms) = decide (ns = ms)
  | [], [] => by unfold dI; simp only [List.map_nil, PyData.eqvAll, decide_true]
  | [], _ :: _ => by unfold dI; simp only [List.map_nil, List.map_cons, PyData.eqvAll]; rfl
  | _ :: _, [] => by unfold dI; simp only [List.map_nil, List.map_cons, PyData.eqvAll]; rfl
  | n :: ns, m :: ms => by
    have := eqv_I ns ms
    unfold dI at this ⊢
    simp only [List.map_cons, PyData.eqvAll, PyData.eqv, this]
    by_cases h1 : n = m <;> by_cases h2 : ns = ms <;> simp [h1, h2]
theorem lt_I (ns ms : List Int) : PySem.W.dataLt (.list (dI ns)) (.list (dI ms)) = decide (ns < ms) := by
  rw [PySem.W.dataLt_list]
  exact PySem.W.dataLt_ints ns ms
theorem lt_T (ns ms : List Int) : PySem.W.dataLt (.tuple (dI ns)) (.tuple (dI ms)) = decide (ns < ms) := by
  rw [PySem.W.dataLt_tuple]
  exact PySem.W.dataLt_ints ns ms
/-- two lists of ints compared -/
theorem r_gtLL (h1 : SqL K H a (ns.map V.int)) (h2 : SqL K H b (ms.map V.int)) (q : Q (.bl (decide (ms < ns))) H) : rCmpA K (fun i j => decide (j < i)) (fun d e => PySem.W.dataLt e d) (.ref a) (.ref b) H Q :=
  .inr ⟨_, _, dp_l h1, dp_l h2, by simp only [PySem.W.alike]; exact ali_I ns ms, (fun e => nomatch e), by rw [dep_l, dep_l]; decide, by rw [← lt_I] at q; exact q⟩
theorem r_ltTT (h1 : SqT K H a (ns.map V.int)) (h2 : SqT K H b (ms.map V.int)) (q : Q (.bl (decide (ns < ms))) H) : rCmpA K (fun i j => decide (i < j)) (fun d e => PySem.W.dataLt d e) (.ref a) (.ref b) H Q :=
  .inr ⟨_, _, dp_t h1, dp_t h2, by simp only [PySem.W.alike]; exact ali_I ns ms, (fun e => nomatch e), by rw [dep_t, dep_t]; decide, by rw [← lt_T] at q; exact q⟩
theorem r_eqTT (h1 : SqT K H a (ns.map V.int)) (h2 : SqT K H b (ms.map V.int)) (q : Q (.bl (decide (ns = ms))) H) : rEqA K (.ref a) (.ref b) H Q :=
  .inr ⟨_, _, dp_t h1, dp_t h2, sh_t, sh_t, by simp only [PyData.eqv, eqv_I]; exact q⟩
theorem r_neTT (h1 : SqT K H a (ns.map V.int)) (h2 : SqT K H b (ms.map V.int)) (q : Q (.bl (!decide (ns = ms))) H) : rNeA K (.ref a) (.ref b) H Q :=
  .inr ⟨_, _, dp_t h1, dp_t h2, sh_t, sh_t, by simp only [PyData.eqv, eqv_I]; exact q⟩
theorem r_eqLL (h1 : SqL K H a (ns.map V.int)) (h2 : SqL K H b (ms.map V.int)) (q : Q (.bl (decide (ns = ms))) H) : rEqA K (.ref a) (.ref b) H Q :=
  .inr ⟨_, _, dp_l h1, dp_l h2, sh_l, sh_l, by simp only [PyData.eqv, eqv_I]; exact q⟩
theorem r_neLL (h1 : SqL K H a (ns.map V.int)) (h2 : SqL K H b (ms.map V.int)) (q : Q (.bl (!decide (ns = ms))) H) : rNeA K (.ref a) (.ref b) H Q :=
  .inr ⟨_, _, dp_l h1, dp_l h2, sh_l, sh_l, by simp only [PyData.eqv, eqv_I]; exact q⟩
theorem r_sortedL {H : Hp} (h : SqL K H a (ns.map V.int)) (q : ∀ (ns' : List Int) (p : Addr), ns'.Perm ns → ns'.Pairwise (· ≤ ·) → H p = none → Q (.ref p) (upd H p (.lst (ns'.map V.int)))) : rSortedA K [V.ref a] H Q := .inl ⟨a, ns, rfl, h, q⟩
theorem r_sortedT {H : Hp} (h : SqT K H a (ns.map V.int)) (q : ∀ (ns' : List Int) (p : Addr), ns'.Perm ns → ns'.Pairwise (· ≤ ·) → H p = none → Q (.ref p) (upd H p (.lst (ns'.map V.int)))) : rSortedA K [V.ref a] H Q := .inr ⟨a, ns, rfl, h, q⟩
/-! ### rows: values that are tuples of ints -/
def Row (K : PySem.W.Frag) (H : Hp) (v : V) (r : List Int) : Prop := ∃ p, v = .ref p ∧ SqT K H p (r.map V.int)
/-- these values are these rows -/
inductive Rws (K : PySem.W.Frag) (H : Hp) : List V → List (List Int) → Prop
  | nil : Rws K H [] []
  | cons {v : V} {vs : List V} {r : List Int} {rs : List (List Int)} : Row K H v r → Rws K H vs rs → Rws K H (v :: vs) (r :: rs)
theorem Row.ex {v : V} {r : List Int} (e : Ex H H') (h : Row K H v r) : Row K H' v r := by
  obtain ⟨p, rfl, h⟩ := h
  exact ⟨p, rfl, sqT_ex e h⟩
theorem Rws.ex {vs : List V} {rs : List (List Int)} (e : Ex H H') (h : Rws K H vs rs) : Rws K H' vs rs := by
  induction h with
  | nil => exact .nil
  | cons h _ ih => exact .cons (h.ex e) ih
/-- the rows stay where another object changes -/
theorem Row.put {v : V} {r : List Int} {d : Addr} {xs : List V} {o : HO} (hd : H d = some (.lst xs)) (h : Row K H v r) : Row K (upd H d o) v r := by
  obtain ⟨p, rfl, h⟩ := h
  refine ⟨p, rfl, ?_⟩
  rcases h with (h | ⟨o', h⟩) | h
  · exact .inl (.inl ((upd_ne (fun e => by rw [e, hd] at h; cases h)).trans h))
  · exact .inl (.inr ⟨o', (upd_ne (fun e => by rw [e, hd] at h; cases h)).trans h⟩)
  · exact .inr h
theorem Rws.put {vs : List V} {rs : List (List Int)} {d : Addr} {xs : List V} {o : HO} (hd : H d = some (.lst xs)) (h : Rws K H vs rs) : Rws K (upd H d o) vs rs := by
  induction h with
  | nil => exact .nil
  | cons h _ ih => exact .cons (h.put hd) ih
theorem Rws.snoc {vs : List V} {rs : List (List Int)} {v : V} {r : List Int} (h : Rws K H vs rs) (k : Row K H v r) : Rws K H (vs ++ [v]) (rs ++ [r]) := by
  induction h with
  | nil => exact .cons k .nil
  | cons h _ ih => exact .cons h ih
theorem Rws.length {vs : List V} {rs : List (List Int)} (h : Rws K H vs rs) : vs.length = rs.length := by
  induction h with
  | nil => rfl
  | cons _ _ ih => rw [List.length_cons, List.length_cons, ih]
theorem Rws.get {vs : List V} {rs : List (List Int)} (h : Rws K H vs rs) : ∀ {i : Nat} {v : V}, vs[i]? = some v → ∃ r, rs[i]? = some r ∧ Row K H v r := by
  induction h with
  | nil => intro i v e; cases e
  | cons h _ ih =>
    intro i v e
    cases i with
    | zero => cases e; exact ⟨_, rfl, h⟩
    | succ i => exact ih (by simpa using e)
theorem Rws.dp {vs : List V} {rs : List (List Int)} (h : Rws K H vs rs) : DpAll K H vs (rs.map fun r => .tuple (dI r)) := by
  induction h with
  | nil => exact .nil
  | cons h _ ih =>
    obtain ⟨p, rfl, h⟩ := h
    exact .cons (dp_t h) ih
theorem lay_R : ∀ rs : List (List Int), PyData.canLayAll0 (rs.map fun r => .tuple (dI r)) = true
  | [] => by rw [List.map_nil]; simp only [PyData.canLayAll0]
  | r :: rs => by rw [List.map_cons]; simp only [PyData.canLayAll0, PyData.canLay0, lay_R rs, lay_I, Bool.and_self]
theorem dep_R : ∀ rs : List (List Int), PyData.depthAll (rs.map fun r => .tuple (dI r)) ≤ 1
  | [] => by rw [List.map_nil]; simp only [PyData.depthAll]; decide
  | r :: rs => by
    have := dep_R rs
    rw [List.map_cons]
    simp only [PyData.depthAll, PyData.depth, dep_I]
    omega
theorem sh_R {rs : List (List Int)} : SeqAt.shaped (.list (rs.map fun r => .tuple (dI r))) = true :=
  sh_of (by simp only [PyData.canLay0, lay_R]) (by simp only [PyData.depth]; have := dep_R rs; omega)
theorem any_R (r : List Int) : ∀ rs : List (List Int), ((rs.map fun r => PyData.tuple (dI r)).any fun z => PyData.eqv z (.tuple (dI r))) = decide (r ∈ rs)
  | [] => rfl
  | s :: rs => by
    rw [List.map_cons, List.any_cons, any_R r rs]
    simp only [PyData.eqv, eqv_I]
    by_cases h1 : s = r
    · subst h1; simp
    · by_cases h2 : r ∈ rs
      · simp [h2]
      · have h3 : ¬ r = s := fun e => h1 e.symm
        simp [h1, h2, h3]
/-- a row not in a list of rows -/
theorem r_ninR {vs : List V} {rs : List (List Int)} (h1 : SqT K H a (ns.map V.int)) (h2 : SqL K H b vs) (h3 : Rws K H vs rs) (q : Q (.bl (!decide (ns ∈ rs))) H) : rNinA K (.ref a) (.ref b) H Q :=
  .inr ⟨_, _, dp_t h1, .lst h2 h3.dp, sh_t, sh_R, by rw [any_R]; exact q⟩
theorem r_inR {vs : List V} {rs : List (List Int)} (h1 : SqT K H a (ns.map V.int)) (h2 : SqL K H b vs) (h3 : Rws K H vs rs) (q : Q (.bl (decide (ns ∈ rs))) H) : rInA K (.ref a) (.ref b) H Q :=
  .inr ⟨_, _, dp_t h1, .lst h2 h3.dp, sh_t, sh_R, by rw [any_R]; exact q⟩
/-- two lists without an item -/
theorem r_ne00 (h1 : SqL K H a []) (h2 : SqL K H b []) (q : Q (.bl false) H) : rNeA K (.ref a) (.ref b) H Q := r_neLL (ns := []) (ms := []) h1 h2 q
theorem r_eq00 (h1 : SqL K H a []) (h2 : SqL K H b []) (q : Q (.bl true) H) : rEqA K (.ref a) (.ref b) H Q := r_eqLL (ns := []) (ms := []) h1 h2 q
/-- a tuple and a tuple of one or more -/
theorem r_catT {xs ys : List V} (h1 : SqT K H a xs) (h2 : SqT K H b ys) (n : xs.length + ys.length ≤ sizeLine) (q : ∀ p H', Ex H H' → SqT K H' p (xs ++ ys) → Q (.ref p) H') : rAddA K (.ref a) (.ref b) H Q :=
  .inr (.inr (.inl ⟨a, b, xs, ys, rfl, rfl, h1, h2, n, fun e => by subst e; exact q b H (Ex.refl H) h2, fun _ e => by subst e; rw [List.append_nil] at q; exact q a H (Ex.refl H) h1, fun _ _ p hp => q p _ (Ex.new hp) sqT_new⟩))
theorem r_slT {xs : List V} {lo hi : Option Int} (h : SqT K H a xs) (q : ∀ p H', Ex H H' → SqT K H' p (cutV xs lo hi) → Q (.ref p) H') : rSlcA K (.ref a) lo hi H Q := by
  refine .inr (.inl ⟨a, xs, rfl, h, fun ⟨e1, e2⟩ => q a H (Ex.refl H) ?_, fun _ p hp => q p _ (Ex.new hp) sqT_new⟩)
  have e : cutV xs lo hi = xs := by
    unfold cutV
    rw [e1, e2]
    simp
  rw [e]; exact h
end
/-- rows that pass a test -/
theorem c_rows {σ : St} {H : Hp} {Q : VK} {K : PySem.W.Frag} {tt : TT} {te : TE} {vs : List Nat} {a : Addr} {ws : List V} {rs : List (List Int)} {j : Nat} (h : SqL K H a ws) (hr : Rws K H ws rs) (f : List Int → Bool) (hn : ws.length < 16000000) (hw : ∀ x, wipe ((wipe σ vs).set j (some x)) vs = wipe σ vs)
    (turn : ∀ v r H1 (q : VK) (N : Hp → Prop), r ∈ rs → Ex H H1 → Row K H1 v r → (f r = true → ∀ H4, Ex H1 H4 → q v H4) → (f r = false → ∀ H4, Ex H1 H4 → N H4) → tt ((wipe σ vs).set j (some v)) H1 fun b H4 => if b = true then te ((wipe σ vs).set j (some v)) H4 q else N H4)
    (done : ∀ L H' us, H L = none → Ex H H' → H' L = some (.lst us) → Rws K H' us (rs.filter f) → Q (.ref L) H') : sQ K (CQ (gName j) tt te vs σ Q) (.ref a) H := by
  refine s_L h (c_it walk_list hn (fun H' e => sqL_ex e h) (fun i acc H' => Rws K H' acc ((rs.take i).filter f)) (fun _ _ => by rw [List.take_zero, List.filter_nil]; exact .nil) (fun L i acc H1 u u' hL _ p => p.put hL) ?_ ?_)
  · rintro i x acc H1 H2 q N hi e1 p ⟨rfl, hx⟩ hq hN
    obtain ⟨r, er, rw'⟩ := hr.get hx
    have tk : rs.take (i + 1) = rs.take i ++ [r] := by rw [List.take_add_one, er]; rfl
    refine ⟨hw x, turn x r H2 q N (List.mem_of_getElem? er) e1 (rw'.ex e1) (fun fy H4 e4 => hq x H4 e4 ?_) fun fn H4 e4 => hN H4 e4 ?_⟩
    · rw [tk, List.filter_append, List.filter_cons_of_pos fy, List.filter_nil]
      exact (p.ex e4).snoc ((rw'.ex e1).ex e4)
    · rw [tk, List.filter_append, List.filter_cons_of_neg (by rw [fn]; decide), List.filter_nil, List.append_nil]
      exact p.ex e4
  · intro L acc H' h1 h2 h3 _ h5
    rw [List.take_of_length_le (Nat.le_of_eq hr.length.symm)] at h5
    exact done L H' acc h1 h2 h3 h5
/-- a row of rolls -/
theorem c_dice {σ : St} {H : Hp} {Q : VK} {tt : TT} {te : TE} {vs : List Nat} {j n m : Nat} {lo t : Int} {d : Addr} (hd : Dice n H d) (hm : m < 16000000) (hw : ∀ x, wipe ((wipe σ vs).set j (some x)) vs = wipe σ vs)
    (turn : ∀ (i : Nat) H1 (q : VK) (N : Hp → Prop), i < m → ExB d H H1 → Dice (n + i) H1 d → (∀ r H4, 0 ≤ r → r < t → ExB d H1 H4 → Dice (n + i + 1) H4 d → q (.int r) H4) →
      tt ((wipe σ vs).set j (some (.int (lo + i)))) H1 fun b H4 => if b = true then te ((wipe σ vs).set j (some (.int (lo + i)))) H4 q else N H4)
    (done : ∀ L H' (ns : List Int), H L = none → L ≠ d → ExB d H H' → H' L = some (.lst (ns.map V.int)) → ns.length = m → (∀ x ∈ ns, 0 ≤ x ∧ x < t) → Dice (n + m) H' d → Q (.ref L) H') : CQ (gName j) tt te vs σ Q (Itr lo m) H := by
  intro L hL
  have ne : L ≠ d := hd.ne hL
  refine lc_it walk_range (fun i H' => ∃ ns : List Int, ExB d H H' ∧ H' L = some (.lst (ns.map V.int)) ∧ ns.length = i ∧ (∀ x ∈ ns, 0 ≤ x ∧ x < t) ∧ Dice (n + i) H' d) ⟨[], ExB.of (Ex.new hL), upd_same, rfl, (fun x hx => nomatch hx), hd.ex (Ex.new hL)⟩ (fun _ _ _ _ => trivial) ?_ ?_
  · rintro i x H1 H2 hi ⟨ns, e1, e2, e3, e4, e5⟩ ⟨rfl, rfl⟩
    refine ⟨hw _, turn i H2 _ _ hi e1 e5 fun r H4 r0 r1 e6 e7 => ?_⟩
    have hL4 : H4 L = some (.lst (ns.map V.int)) := e6 _ _ ne e2
    refine ⟨ns.map V.int, hL4, by rw [List.length_map]; exact Nat.lt_trans (by omega : ns.length < 16000000) (by decide), ns ++ [r], ?_, by rw [upd_same, List.map_append]; rfl, by rw [List.length_append, e3]; rfl, ?_, ?_⟩
    · intro b o hb ho
      have hne : b ≠ L := fun z => by rw [z, hL] at ho; cases ho
      exact (upd_ne hne).trans (e6 _ _ hb (e1 b o hb ho))
    · intro y hy
      rw [List.mem_append, List.mem_singleton] at hy
      rcases hy with hy | rfl
      · exact e4 y hy
      · exact ⟨r0, r1⟩
    · obtain ⟨x, y, z, h, r⟩ := e7
      exact ⟨x, y, z, (upd_ne (Ne.symm ne)).trans h, r⟩
  · rintro H' ⟨ns, e1, e2, e3, e4, e5⟩
    exact done L H' ns hL ne e1 e2 e3 e4 e5
theorem cut_lo {xs : List V} {i : Nat} : cutV xs none (some (i : Int)) = xs.take i := by
  unfold cutV
  rw [HT.sIx_none, HT.sIx_nat, Nat.sub_zero, List.drop_zero, List.take_eq_take_iff]
  omega
theorem cut_hi {xs : List V} {i : Nat} : cutV xs (some (i : Int)) none = xs.drop i := by
  unfold cutV
  rw [HT.sIx_none, HT.sIx_nat]
  by_cases h : i ≤ xs.length
  · rw [Nat.min_eq_left h, List.take_of_length_le (by rw [List.length_drop]; exact Nat.le_refl _)]
  · rw [Nat.min_eq_right (by omega), List.drop_eq_nil_of_le (Nat.le_refl _), List.drop_eq_nil_of_le (by omega), List.take_nil]
theorem Dice.fresh {n : Nat} {H : Hp} {d p : Addr} {o : HO} (h : Dice n H d) (hp : H p = none) : Dice n (upd H p o) d := h.ex (Ex.new hp)
end PB

/-! PG: defs that need to know that no repr is under way: calls, the law's own call, repr of data. -/
namespace PB
open PySem PySem.Spec L2
open PyProof.Rows hiding St
/-- as FnOk, where no repr is under way -/
structure FnG (P : Program) (w : World) (K : PySem.W.Frag) (mg : Str → Option Value) (base : Heap) (k : Nat) (f : Addr) (fd : FuncData) (ps : List Str) (sp : Sp) : Prop where
  len : ∀ vs H Q E, sp vs H Q E → vs.length = ps.length
  run : ∀ (A : Around) (outer : List Env) (s : Shared) (H : Hp) (args : Args) (us : List Value) (vs : List V) (Q : VK) (E : XK), A.guards = some [] → Room k A → Env0 P w K mg base A outer s H → BindsTo s fd args (ps.zip us) → Vals vs us → sp vs H Q E →
    codeAny (model P w) A (.call (.ref f) args) (CR (L2.CX P w) outer P w H s Q E) s
def CalG (P : Program) (w : World) (K : PySem.W.Frag) (mg : Str → Option Value) (base : Heap) (k : Nat) (x : Str) (ps : List Str) (sp : Sp) : Prop :=
  ∃ f fd, mg x = some (.ref f) ∧ PySem.W.keepIn K (.ref f) = true ∧ FnG P w K mg base k f fd ps sp ∧ Binds K fd ps []
theorem pe_fG {X : Cx} {k j : Nat} {x : Str} {ps : List Str} {sp : Sp} {E : XK} {p pos : Pos} {e : Expr} {es : List Expr} {t : TA} (c : CalG X.prog X.w X.K X.mg X.base k x ps sp) (gd : X.A.guards = some []) (hr : Room j X.A) (hk : k ≤ j) (hx : Passes (L2.CX X.prog X.w) X E) (ha : PA X (e :: es) t)
    (hg : Gl X x := by rfl) (hdb : (x == ("__debug__" : Str)) = false := by decide) (he : starEach (e :: es) X.env = (false, eval e X.env) :: starEach es X.env := by rfl) (hpl : (backTo pos (starEach es X.env)).any (·.1) = false := by rfl) :
    PE X (.Call (.Name x p) (e :: es) [] pos) (tCall sp [] E t) := by
  obtain ⟨f, fd, h1, h2, F, b⟩ := c
  refine ⟨fun pins s σ H Q I h => wpAny_Call_Name_kw (ld_glob I hg h1 ?_ hdb)⟩
  refine PySem.W.callWith_K (h₀ := X.base) I.ok.mod.kin h2 (thn (ha.run pos pins s σ H _ I h) fun us s1 ⟨vs, H1, I1, r, q⟩ => ⟨I1.kIn, ?_⟩) he hpl
  have q2 : sp (vs ++ []) H1 Q E := q
  rw [List.append_nil] at q2
  have hl : (us ++ []).length = ps.length := by
    rw [List.append_nil, ← r.length]
    exact F.len _ _ _ _ q2
  have hb := b s1 us I1.kIn hl
  rw [List.append_nil] at hb
  refine wpAny_call (codeAny_mono (F.run X.A X.stack s1 H1 ⟨us, []⟩ us vs Q E gd (hr.mono hk) I1.env0 hb r q2) fun z s' hq => ?_)
  match z, hq with
  | .error er, hq => exact hx pins σ H1 s1 er s' I1 hq
  | .ok (.ret u), hq => exact I1.after hq
  | .ok .next, hq => exact hq.elim
  | .ok .brk, hq => exact hq.elim
  | .ok .cont, hq => exact hq.elim
/-- such a def's body -/
theorem fnG_of {P : Program} {w : World} {K : PySem.W.Frag} {mg : Str → Option Value} {base : Heap} {x : Str} {a : Arguments} {b : List Stmt} {sc : Scope} {f : Addr} {fd : FuncData} {N ps : List Str} {k : Nat} {sp : Sp} (F : FunD K x x a b sc [] [] f fd) (S : FnScope N ps sc)
    (len : ∀ vs H Q E, sp vs H Q E → vs.length = ps.length)
    (hbody : ∀ (cdv : Value) (A : Around) (outer : List Env) (s : Shared) (H : Hp) (vs : List V) (Q : VK) (E : XK), (A.deeper (envOfC x sc s.heap.objs.size f cdv)).guards = some [] → Room k (A.deeper (envOfC x sc s.heap.objs.size f cdv)) → sp vs H Q E →
      ∃ t, PSs (cxOf (L2.CX P w) P w K mg base N x sc f cdv A outer s H E) b t ∧ t { nx := fun _ H' => Q .non H', rt := Q } (start N vs) H) : FnG P w K mg base (k + 1) f fd ps sp := by
  obtain ⟨oc, od, dV, kV, doc, pm, an, cdv, ct, osl, rfl, lk, hcd, _, _⟩ := F.ex
  exact ⟨len, fun A outer s H args us vs Q E hg hr e0 hb r h => LamX.run_ofS lk hcd S hr e0 hb r (len _ _ _ _ h) fun hr' => hbody cdv A outer s H vs Q E hg hr' h⟩
section
variable {P : Program} {w : World} {fa : List He.Fa} {fn : List He.DefD} {K : PySem.W.Frag} {mg : Str → Option Value} {base : Heap}
theorem Ct.calG (C : Ct fa fn K mg base) (i j : Nat) {x : Str} {a : Arguments} {b : List Stmt} {sc : Scope} (hd : fn[i]? = some ⟨(x, none), x, x, a, b, sc, [], []⟩) (hj : fa[j]? = some (.glo x)) {N ps : List Str} {k : Nat} {sp : Sp} (S : FnScope N ps sc)
    (hb : ∀ (kV doc pm : Value) (an : Option Addr) (cdv ct : Value) (us : List Value), us.length = ps.length → bindArgs (PySem.W.fnOf x x a b sc .none kV doc pm an cdv ct) ⟨us, []⟩ = pure (ps.zip us))
    (len : ∀ vs H Q E, sp vs H Q E → vs.length = ps.length)
    (hbody : ∀ (f : Addr) (cdv : Value) (A : Around) (outer : List Env) (s : Shared) (H : Hp) (vs : List V) (Q : VK) (E : XK), (A.deeper (envOfC x sc s.heap.objs.size f cdv)).guards = some [] → Room k (A.deeper (envOfC x sc s.heap.objs.size f cdv)) → sp vs H Q E →
      ∃ t, PSs (cxOf (L2.CX P w) P w K mg base N x sc f cdv A outer s H E) b t ∧ t { nx := fun _ H' => Q .non H', rt := Q } (start N vs) H) : CalG P w K mg base (k + 1) x ps sp := by
  obtain ⟨fd, F⟩ := C.says.def_ i hd
  exact ⟨_, fd, He.glo_ok C.kin C.glob (C.says.fact j hj), F.kp, fnG_of F S len fun cdv A outer s H vs Q E hg hr h => hbody _ cdv A outer s H vs Q E hg hr h, FunD.bindsN F hb⟩
end
/-! ### repr -/
/-- the text of data -/
def rRepr (K : PySem.W.Frag) : List V → Hp → VK → Prop := fun vs H Q => ∃ a d, vs = [.ref a] ∧ Dp K H (.ref a) d ∧ d.showable = true ∧ d.hasDict = false ∧ d.shown.length ≤ sizeLine ∧ d.depth ≤ 60 ∧ Q (.str d.shown) H
theorem k_repr {X : Cx} {K : PySem.W.Frag} {j : Nat} (eK : X.K = K) (hr : Room j X.A) (gd : X.A.guards = some []) : CallR X (.builtin "repr") (rRepr K) := by
  subst eK
  intro pins s σ H vs us Q I r h
  obtain ⟨a, d, rfl, hd, sh, nd, hz, dp, q⟩ := h
  rw [Vals.ref1 r]
  obtain ⟨as, rd⟩ := Dp.reads I d (.ref a) (.ref a) hd rfl
  have hu : X.A.units + (d.depth + 1) < cLine := by
    have := hr.un
    omega
  refine repr_of_reads' rd sh (fun e => by rw [nd] at e; cases e) gd hu (fun _ _ z => z) (fun h' u tk k => ⟨.str d.shown, H, I.kept k, ⟨u, rfl⟩, q⟩) hz
/-! ### the law called: nothing stands but the script and the tables -/
section
variable {P : Program} {w : World} {K : PySem.W.Frag} {mg mb : Str → Option Value} {cs : List (Addr × Addr)} {st : Shared}
/-- the abstract heap with nothing but the tables -/
def tabH (cs : List (Addr × Addr)) : Hp := fun b => if b ∈ cs.map (·.2) then some (.tbl #[]) else none
theorem tabH_in {p : Addr × Addr} (h : p ∈ cs) : tabH cs p.2 = some (.tbl #[]) := if_pos (List.mem_map.mpr ⟨p, h, rfl⟩)
theorem tabH_out {b : Addr} (h : b ∉ cs.map (·.2)) : tabH cs b = none := if_neg h
/-- from a heap in which lists and empty tables alone may be tracked, none of them of K -/
theorem law_from {H : Hp} {fa a : Addr} {k : Nat} {fd : FuncData} {x : Str} {sp : Sp} {ns : List Int} (kin : K.In st.heap) (gn : st.heap.Ns mainGlobals mg) (bn : st.heap.Ns builtinsNs mb) (bb : ∀ y : Str, y ≠ "__name__" → mb y = bootBuiltins y) (lim : st.heap.NoLimit) (gens : st.gens = #[])
    (emp : ∀ p ∈ cs, st.heap.get? p.2 = some { cls := .none, data := .fields #[] }) (cod : ∀ p ∈ cs, PySem.W.CodeHd st.heap p.1 p.2)
    (bm : ∃ (m : Addr) (o : Obj), mg "__builtins__" = some (.ref m) ∧ m ≠ builtinsNs ∧ st.heap.get? m = some o ∧ o.cls = .type "module" ∧ o.dict = some builtinsNs ∧ o.data = .plain)
    (tH : ∀ p ∈ cs, H p.2 = some (.tbl #[])) (kinds : ∀ b, H b = none ∨ b ∈ cs.map (·.2) ∨ ∃ o xs, H b = some (.frz o (.lst xs))) (hok : HOk P w H st.heap)
    (seen : ∀ b o, st.heap.get? b = some o → H b ≠ none → (∃ vs n, o.data = .seq vs n) ∨ o.data = .fields #[]) (outK : ∀ b, H b ≠ none → K.lookup b = none)
    (room : Room k callerA) (F : ∀ base : Heap, K.In base → base.Ns mainGlobals mg → (∀ p ∈ cs, LamX.TabB base mg p.1 p.2) → FnG P w K mg base k fa fd [x] sp) (bind : ∀ (s : Shared) (u : Value), BindsTo s fd ⟨[u], []⟩ [(x, u)])
    (h : sp [.ref a] H (fun v _ => v = .bl true) fun _ _ _ => False) :
    codeAny (model P w) callerA (.call (.ref fa) ⟨[.ref a], []⟩) (fun r s' => r = .ok (.ret (.bool true)) ∧ OldK st.heap s'.heap ∧ s'.os = st.os ∧ AllBare s'.gens) st := by
  have free : ∀ {b : Addr} {o : Obj}, st.heap.get? b = some o → (∀ vs n, o.data ≠ .seq vs n) → o.data ≠ .fields #[] → H b = none := fun {b o} e n1 n2 => by
    refine Classical.byContradiction fun c => ?_
    rcases seen b o e c with ⟨vs, n, q⟩ | q
    · exact n1 vs n q
    · exact n2 q
  have sees : ∀ {b : Addr} {o : Obj}, st.heap.get? b = some o → (∀ vs n, o.data ≠ .seq vs n) → o.data ≠ .fields #[] → (hidT st.heap H).get? b = some o := fun e n1 n2 => hidT_get e (free e n1 n2)
  have names : ∀ {b : Addr} {m : Str → Option Value}, st.heap.Ns b m → (hidT st.heap H).Ns b m := fun ⟨o, es, ep, e, d, r⟩ =>
    ⟨o, es, ep, sees e (fun _ _ q => by rw [d] at q; cases q) (fun q => by rw [d] at q; cases q), d, r⟩
  have kin2 : K.In (hidT st.heap H) := fun b o e => hidT_get (kin b o e) (Classical.byContradiction fun c => by rw [outK b c] at e; cases e)
  have modul : L2.Mod K mg (hidT st.heap H) := ⟨kin2, names gn, ⟨mb, names bn, bb⟩, let ⟨mc, l1, l2⟩ := lim; ⟨mc, names l1, l2⟩⟩
  have tabs : ∀ p ∈ cs, LamX.TabB (hidT st.heap H) mg p.1 p.2 := fun p hp => by
    have ep := emp p hp
    have nG : ∀ {c : Addr} {m : Str → Option Value}, st.heap.Ns c m → ∀ {o : Obj}, st.heap.get? c = some o → ∃ es n, o.data = .dict es n := fun {c m} ns {o'} e' => by
      obtain ⟨o, es, n, e, d, _⟩ := ns
      rw [e] at e'
      cases e'
      exact ⟨es, n, d⟩
    refine ⟨?_, ?_, fun z => ?_⟩
    · obtain ⟨o, us, file, tf, flags, tg, inF, text, tt, e1, r1, r2, r3, rest⟩ := cod p hp
      refine ⟨o, us, file, tf, flags, tg, inF, text, tt, sees e1 (fun _ _ q => by rw [r2] at q; cases q) (fun q => ?_), r1, r2, r3, rest⟩
      rw [r2] at q
      cases q
      simp at r3
    · obtain ⟨m, o, b1, b2, b3, b4, b5, b6⟩ := bm
      refine ⟨m, o, b1, b2, fun q => ?_, fun q => ?_, sees b3 (fun _ _ q => by rw [b6] at q; cases q) (fun q => by rw [b6] at q; cases q), b4, b5, b6⟩
      · obtain ⟨es, n, d⟩ := nG gn (q ▸ b3)
        rw [b6] at d
        cases d
      · rw [q, ep] at b3
        cases b3
        cases b6
    · obtain ⟨es, n, d⟩ := nG gn (z ▸ ep)
      cases d
  have start : Env0 P w K mg (hidT st.heap H) callerA [] st H := ⟨rfl, modul, fun _ _ e => of_hidT e, Nat.le_of_eq (hidT_size _ _), trivial, fun b q => (by cases q), hok, .of_eq gens⟩
  refine codeAny_mono ((F _ kin2 (names gn) tabs).run callerA [] st H ⟨[.ref a], []⟩ [.ref a] [.ref a] _ _ rfl room start (bind st (.ref a)) (.cons rfl .nil) h) fun r s' q => ?_
  match r, q with
  | .error e, q => exact (by obtain ⟨_, _, _, _, _, _, _, _, _, _, _, _, z⟩ := q; exact z.elim)
  | .ok .next, q => exact q.elim
  | .ok .brk, q => exact q.elim
  | .ok .cont, q => exact q.elim
  | .ok (.ret u), q =>
    obtain ⟨v, H', os, bare, un, hok', rv, ev⟩ := q
    obtain rfl : v = .bl true := ev
    obtain rfl : u = Value.bool true := rv
    have same : ∀ b o, b ∉ cs.map (·.2) → st.heap.get? b = some o → s'.heap.get? b = some o := fun b o nb e => by
      rcases kinds b with z | z | ⟨ob, xs, z⟩
      · exact un.keep b o e z (fun y => by cases y) (fun y => by cases y)
      · exact absurd z nb
      · have e1 := (hok b _ z).1
        have e2 := (hok' b _ (un.frzs b ob _ z)).1
        rw [e] at e1
        rw [e2, e1]
    have more : ∀ p ∈ cs, ∃ us : Array Value, s'.heap.get? p.2 = some { cls := .none, data := .fields us } := fun p hp => by
      obtain ⟨us, z⟩ := un.tbls p.2 #[] (tH p hp)
      exact ⟨_, hok' p.2 _ z⟩
    refine ⟨rfl, ⟨fun b o e => ?_, fun b o e => ?_⟩, os, bare⟩
    · by_cases hb : b ∈ cs.map (·.2)
      · obtain ⟨p, hp, rfl⟩ := List.mem_map.mp hb
        obtain ⟨us, hu⟩ := more p hp
        rw [emp p hp] at e
        cases e
        exact .inr (.inl ⟨((cod p hp).tab (emp p hp)).isCodeTable, rfl, #[], us, rfl, by rw [Array.empty_append]; exact hu⟩)
      · exact .inl (same b o hb e)
    · by_cases hb : b ∈ cs.map (·.2)
      · obtain ⟨p, hp, rfl⟩ := List.mem_map.mp hb
        obtain ⟨us, hu⟩ := more p hp
        exact ⟨_, hu⟩
      · exact ⟨o, same b o hb e⟩
/-- the law called with its script -/
theorem law_with {fa a : Addr} {k : Nat} {fd : FuncData} {x : Str} {sp : Sp} {ns : List Int} {us : List Value} (kin : K.In st.heap) (gn : st.heap.Ns mainGlobals mg) (bn : st.heap.Ns builtinsNs mb) (bb : ∀ y : Str, y ≠ "__name__" → mb y = bootBuiltins y) (lim : st.heap.NoLimit) (gens : st.gens = #[])
    (emp : ∀ p ∈ cs, st.heap.get? p.2 = some { cls := .none, data := .fields #[] }) (nK : ∀ p ∈ cs, K.lookup p.2 = none) (cod : ∀ p ∈ cs, PySem.W.CodeHd st.heap p.1 p.2)
    (bm : ∃ (m : Addr) (o : Obj), mg "__builtins__" = some (.ref m) ∧ m ≠ builtinsNs ∧ st.heap.get? m = some o ∧ o.cls = .type "module" ∧ o.dict = some builtinsNs ∧ o.data = .plain)
    (obj : st.heap.get? a = some { cls := .type "list", data := .seq us.toArray }) (isI : IntsAre us ns) (len : ns.length ≤ sizeLine)
    (room : Room k callerA) (F : ∀ base : Heap, K.In base → base.Ns mainGlobals mg → (∀ p ∈ cs, LamX.TabB base mg p.1 p.2) → FnG P w K mg base k fa fd [x] sp) (bind : ∀ (s : Shared) (u : Value), BindsTo s fd ⟨[u], []⟩ [(x, u)])
    (h : ∀ H : Hp, (∀ p ∈ cs, H p.2 = some (.tbl #[])) → SqL K H a (ns.map V.int) → sp [.ref a] H (fun v _ => v = .bl true) fun _ _ _ => False) :
    codeAny (model P w) callerA (.call (.ref fa) ⟨[.ref a], []⟩) (fun r s' => r = .ok (.ret (.bool true)) ∧ OldK st.heap s'.heap ∧ s'.os = st.os ∧ AllBare s'.gens) st := by
  have vals := vals_ints isI
  have nA : a ∉ cs.map (·.2) := fun z => by
    obtain ⟨p, hp, e⟩ := List.mem_map.mp z
    have q := emp p hp
    rw [e, obj] at q
    cases congrArg Obj.data (Option.some.inj q)
  have atT : ∀ {b : Addr}, b ∈ cs.map (·.2) → st.heap.get? b = some { cls := .none, data := .fields #[] } ∧ K.lookup b = none := fun {b} z => by
    obtain ⟨p, hp, rfl⟩ := List.mem_map.mp z
    exact ⟨emp p hp, nK p hp⟩
  have onT : ∀ {b : Addr}, tabH cs b ≠ none → b ∈ cs.map (·.2) := fun {b} c => Classical.byContradiction fun z => c (tabH_out z)
  cases inK : K.lookup a with
  | some o =>
    have e := kin a o inK
    rw [obj] at e
    cases e
    refine law_from (H := tabH cs) (ns := ns) kin gn bn bb lim gens emp cod bm (fun p => tabH_in) (fun b => ?_) (fun b u z => ?_) (fun b o e c => .inr ?_) (fun b c => (atT (onT c)).2) room F bind
      (h _ (fun p => tabH_in) (.inr ⟨_, us.toArray, _, inK, rfl, rfl, rfl, by rw [List.size_toArray, isI.length]; exact len, by simpa using vals⟩))
    · by_cases z : b ∈ cs.map (·.2)
      · exact .inr (.inl z)
      · exact .inl (tabH_out z)
    · have z2 := onT (b := b) (by rw [z]; exact fun e => nomatch e)
      have z3 : tabH cs b = some (.tbl #[]) := if_pos z2
      rw [z] at z3
      cases z3
      exact (atT z2).1
    · rw [(atT (onT c)).1] at e
      cases e
      rfl
  | none =>
    have sees : (fun b => if b = a then some (HO.frz { cls := .type "list", data := .seq us.toArray } (.lst (ns.map V.int))) else tabH cs b) a = some (.frz { cls := .type "list", data := .seq us.toArray } (.lst (ns.map V.int))) := if_pos rfl
    have off : ∀ {b : Addr}, b ≠ a → (fun b => if b = a then some (HO.frz { cls := .type "list", data := .seq us.toArray } (.lst (ns.map V.int))) else tabH cs b) b = tabH cs b := fun n => if_neg n
    have tabs : ∀ p ∈ cs, (fun b => if b = a then some (HO.frz { cls := .type "list", data := .seq us.toArray } (.lst (ns.map V.int))) else tabH cs b) p.2 = some (.tbl #[]) := fun p hp =>
      (off fun z => nA (by rw [← z]; exact List.mem_map.mpr ⟨p, hp, rfl⟩)).trans (tabH_in hp)
    refine law_from (H := fun b => if b = a then some (HO.frz { cls := .type "list", data := .seq us.toArray } (.lst (ns.map V.int))) else tabH cs b) (ns := ns) kin gn bn bb lim gens emp cod bm tabs (fun b => ?_) (fun b u z => ?_) (fun b o e c => ?_) (fun b c => ?_) room F bind (h _ tabs (.inl (.inr ⟨_, sees⟩)))
    · by_cases n : b = a
      · exact .inr (.inr ⟨_, _, by rw [n]; exact sees⟩)
      · by_cases z : b ∈ cs.map (·.2)
        · exact .inr (.inl z)
        · exact .inl ((off n).trans (tabH_out z))
    · by_cases n : b = a
      · rw [n] at z ⊢
        have z2 := sees.symm.trans z
        cases z2
        exact ⟨obj, by rw [List.length_map]; exact len, us, _, vals, obj⟩
      · have z1 := (off n).symm.trans z
        have z2 := onT (b := b) (by rw [z1]; exact fun e => nomatch e)
        have z3 : tabH cs b = some (.tbl #[]) := if_pos z2
        rw [z1] at z3
        cases z3
        exact (atT z2).1
    · by_cases n : b = a
      · rw [n, obj] at e
        cases e
        exact .inl ⟨_, _, rfl⟩
      · have z2 := onT (b := b) (fun q => c ((off n).trans q))
        rw [(atT z2).1] at e
        cases e
        exact .inr rfl
    · by_cases n : b = a
      · rw [n]; exact inK
      · exact (atT (onT (b := b) (fun q => c ((off n).trans q)))).2
end
/-- what the law's top must give -/
def LawG (l : PySem.W.OpenLaw) (w : World) (K : PySem.W.Frag) (k n : Nat) (x : Str) (mg : Str → Option Value) (fa : Addr) (h : Heap) : Prop :=
  ∃ (fd : FuncData) (cs : List (Addr × Addr)) (sp : Sp), (∀ p ∈ cs, h.get? p.2 = some { cls := .none, data := .fields #[] }) ∧ (∀ p ∈ cs, K.lookup p.2 = none) ∧ (∀ p ∈ cs, PySem.W.CodeHd h p.1 p.2) ∧ (∀ (s : Shared) (u : Value), BindsTo s fd ⟨[u], []⟩ [(x, u)]) ∧
    (∀ (H : Hp) (a : Addr) (ns : List Int), ns.length ≤ n → (∀ z ∈ ns, Builtin.Int.intBits z ≤ 1048576) → (∀ p ∈ cs, H p.2 = some (.tbl #[])) → SqL K H a (ns.map V.int) → sp [.ref a] H (fun v _ => v = .bl true) fun _ _ _ => False) ∧
    ∀ base : Heap, K.In base → base.Ns mainGlobals mg → (∀ p ∈ cs, LamX.TabB base mg p.1 p.2) → FnG l.prog w K mg base k fa fd [x] sp
theorem walk_G {l : PySem.W.OpenLaw} {n k : Nat} {q : Program} {loose : List Str} {XP : (Str → Option Value) → Heap → Prop} {YP : World → Heap → Prop} {d : DefRec} {x : Str} (hn : l.most = some n) (hn2 : n ≤ sizeLine) (hdf : d.params.defaults = []) (hr : Room k callerA)
    (F : ∀ (w : World) (mg : Str → Option Value) (fa : Addr) (h : Heap), YP w h → h.Ns mainGlobals mg → mg d.name = some (.ref fa) → ∃ K : PySem.W.Frag, K.In h ∧ LawG l w K k n x mg fa h) :
    PySem.W.WalkO q loose XP YP l.row.toRowW d [] (fun f vs => PySem.call f vs) := by
  refine Att.attach_callB hn hdf fun w s₀ st mg mb fa o pm cd doc a us ns G Y ho hd hcd hmg obj isI len bits hg => ?_
  obtain ⟨K, kin, fd, cs, sp, t1, t2, t3, b, h, FF⟩ := F w mg fa _ Y G.T.g hmg
  exact law_with kin G.T.g G.T.b G.T.builtins G.T.nolimit hg t1 t2 t3 G.T.bmain obj isI (Nat.le_trans len hn2) hr FF b fun H tH hS => h H a ns len bits tH hS
end PB

/-! PI: an own exception whose __init__ says super().__init__(x) and self.x = x. -/
namespace PB
open PySem PySem.Spec L2
open PyProof.Rows hiding St
/-- the body of such an __init__ -/
def iniBody (f : Str) (p0 p1 p2 p3 p4 p5 p6 p7 p8 p9 : Pos) : List Stmt :=
  [.Expr (.Call (.Attribute (.Call (.Name "super" p0) [] [] p1) "__init__" p2) [.Name f p3] [] p4) p5, .Assign [.Attribute (.Name "self" p6) f p7] (.Name f p8) p9]
/-- what K tells of the class at C and its __init__ at fI -/
structure IniC (P : Program) (K : PySem.W.Frag) (C fI : Addr) (f : Str) (fd : FuncData) (q : Str) (sc : Scope) (c : Addr) : Prop where
  oex : OexC K C
  fn : ∃ oc od osl, K.lookup fI = some ⟨oc, od, .func fd, osl⟩
  code : PySem.W.codeIn K fd.code q = true
  file : ∃ cda ccl cdd ccs vs file tf, fd.code = .ref cda ∧ K.lookup cda = some ⟨ccl, cdd, .fields vs, ccs⟩ ∧ vs[2]? = some (.str file tf) ∧ ((P.main.file : Str) == file) = true
  top : (P.main.scope.names.lookup ("super" : Str)).isSome = false
  cell : ∃ cl cld csl, K.lookup c = some ⟨cl, cld, .cell (some (.ref C)), csl⟩
  clo : fd.closure = [(("__class__" : Str), c)]
  qual : fd.qualname = q
  scope : fd.scope = sc
  bi : fd.builtins = builtinsNs
  gl : fd.globals = mainGlobals
  dfl : fd.defaults = .none
  kwd : fd.kwdefaults = .none
  sub : PySem.W.mroIn K C (.ref C) = some true
  subV : PySem.W.subIn K (.ref C) (.type "ValueError") = some true
  sup : PySem.W.ks_superIn K C C "__init__" = some (some (.builtin "ValueError.__init__"))
  stat : PySem.W.nsIn K cStatics "thirdparty.any" = some none
  nof : PySem.W.findIn K (.ref C) f = some none
  nosup : PySem.W.nsIn K mainGlobals "super" = some none
/-- the scope of such an __init__ -/
structure IniS (f : Str) (sc : Scope) : Prop where
  kind : sc.kind = .function
  co : sc.isCoroutine = false
  gen : sc.isGenerator = false
  nc : ∀ x ∈ sc.names, x.2 ≠ .cell
  self : sc.names.lookup ("self" : Str) = some .local
  par : sc.names.lookup f = some .local
  sup : sc.names.lookup ("super" : Str) = some .globalImplicit
  cls : sc.names.lookup ("__class__" : Str) = some .free
  ne : f ≠ "self"
/-- the promise of such an __init__ -/
def spIni (C : Addr) (f : Str) : Sp := fun vs H Q _ => ∃ a y, vs = [.ref a, y] ∧ H a = some (exo a C none) ∧ ∀ dx, H dx = none → dx ≠ a → Q .non (upd (upd H dx (exd dx [(f, y)])) a (exo a C (some dx)))
section
variable {prog : Program} {w : World} {A : Around} {E : Value → Shared → Prop} {s : Shared}
/-- the wrapper of ValueError.__init__ called: the object's arguments are laid anew -/
theorem call_mw {u e C t0 : Addr} {rest : List Value} {Q : Value → Shared → Prop} {K : PySem.W.Frag} (hu : s.heap.get? u = some (PySem.W.kxs_mw "ValueError.__init__" e)) (T : OexC K C) (kin : K.In s.heap) (he : s.heap.get? e = some (PySem.HandSPX.excO C t0)) (hz : rest.length ≤ sizeLine)
    (hq : ∀ h' t1, (∀ b o, b ≠ e → s.heap.get? b = some o → h'.get? b = some o) → h'.get? e = some (PySem.HandSPX.excO C t1) → Q .none { s with heap := h' }) : wpAny (model prog w) A (call (.ref u) rest) Q E s := by
  obtain ⟨nm, q, N, bs, bm, sn, sub, ab, col, dd, k0, k1, k2, k3, k5, hC, hbm⟩ := T.cls
  have hC := kin _ _ hC
  obtain ⟨hh, g, d, tk, os⟩ := s
  refine wpAny_call (codeAny_of_tree ?_)
  show wpAny _ A.in1 (callAny (.ref u) ⟨rest, []⟩) _ _ _
  simp only [callAny]
  refine wpAny_bind (wpAny_load hu ?_)
  simp only [PySem.W.kxs_mw, show (Value.type "method-wrapper" == Value.type "method" || Value.type "method-wrapper" == Value.type "builtin_function_or_method" || Value.type "method-wrapper" == Value.type "method-wrapper") = true by decide, if_true]
  refine PySem.W.KFB.if_so (by decide) ?_
  refine wpAny_bind (PySem.W.check_bound_init F.excBase_ValueError.toExcCallFacts hC he rfl ?_)
  refine wpAny_bind (wpAny_pure (wpAny_pure ?_))
  refine ⟨plainId_quiet F.excBase_ValueError.init.plain _, codeAny_builtin F.excBase_ValueError.initEntry ?_⟩
  exact PySem.W.exc_init_tree (cls := .ref C) (t0 := t0) (dv := none) (c2 := .none) (c3 := .none) (b4 := .bool false) he hz fun h' k e' t' => hq h' _ k e'
end
section
variable {P : Program} {w : World} {K : PySem.W.Frag} {mg : Str → Option Value} {base : Heap} {C fI c : Addr} {f q : Str} {fd : FuncData} {sc : Scope} {k : Nat} {ar : Arg} {p0 p1 p2 p3 p4 p5 p6 p7 p8 p9 : Pos}
theorem ini_ok (I : IniC P K C fI f fd q sc c) (S : IniS f sc) (hb : fd.body = .stmts (iniBody f p0 p1 p2 p3 p4 p5 p6 p7 p8 p9)) (hp : (fd.params.posonlyargs ++ fd.params.args).head? = some ar) (hself : ar.arg = ("self" : Str)) (hd1 : (f == ("__debug__" : Str)) = false)
    (hmg : mg "super" = none) {pl : Env → Sem Bool}
    (he : ∀ env : Env, eval (.Call (.Attribute (.Call (.Name "super" p0) [] [] p1) "__init__" p2) [.Name f p3] [] p4) env = (do
      let ov ← attributeBase (.Call (.Name "super" p0) [] [] p1) "__init__" env (eval (.Call (.Name "super" p0) [] [] p1) env)
      standAt p2.atName
      let (g, first) ← holding [ov] (getMethod ov "__init__" (pl env))
      callWith p4 g first (backTo p4 (starEach [.Name f p3] env)) []))
    (hsw : ∀ env : Env, swapsWith (.Call (.Attribute (.Call (.Name "super" p0) [] [] p1) "__init__" p2) [.Name f p3] [] p4) none p5.line env = pure false)
    (hsw2 : ∀ env : Env, swapsWith (.Name f p8) (some (.Attribute (.Name "self" p6) f p7)) p9.line env = pure false) : FnOk P w K mg base (L2.CX P w) (k + 1) fI fd ["self", f] (spIni C f) := by
  obtain ⟨oc, od, osl, lk⟩ := I.fn
  obtain ⟨cda, ccl, cdd, ccs, vs0, file, tf, ecd, lcd, hvs, hfile⟩ := I.file
  obtain ⟨cl, cld, csl, lcell⟩ := I.cell
  refine ⟨fun vs H Q E h => ?_, fun A outer s H args us vs Q E hr e0 hbind hv h => ?_⟩
  · obtain ⟨a, y, rfl, _⟩ := h
    rfl
  obtain ⟨a, y, rfl, ha, cont⟩ := h
  obtain ⟨u0, u, rfl, r0, ry⟩ := vals2 hv
  obtain rfl : u0 = Value.ref a := r0
  have KX : K.In s.heap := e0.mod.kin.keeps fun b o e => (e0.bs b o e).1
  have lim : s.heap.NoLimit := e0.mod.nolimit.keeps fun b o e => (e0.bs b o e).1
  have gn : s.heap.Ns mainGlobals mg := e0.mod.glob.keeps fun b o e => (e0.bs b o e).1
  obtain ⟨mb, bn, bb⟩ := e0.mod.blt
  have bn : s.heap.Ns builtinsNs mb := bn.keeps fun b o e => (e0.bs b o e).1
  obtain ⟨t1, hax⟩ := exo_at e0.hok ha
  obtain ⟨n1, n2, n3, n4, n5, n6, n7, n8, n9, n10, n11, n12, n13, n14, n15⟩ := fd
  have h2 := I.qual
  have h4 := I.scope
  have h7 := I.clo
  have h6 := I.gl
  have h15 := I.bi
  have hcode := I.code
  dsimp only at hb hp h2 h4 h7 h6 h15 ecd hcode
  subst h2 h4 h7 h6 h15 ecd hb
  refine ks_codeAny_call_defAt hr.depth (KX _ _ lk) rfl lim (PySem.W.codeRec_of KX hcode) rfl hbind S.nc (fun z hz => ?_) (fun h0 hns keep0 => ?_) S.co S.gen S.kind
  · have hz : z ∈ [(("self" : Str), Value.ref a), (f, u)] := hz
    simp only [List.mem_cons, List.not_mem_nil, or_false] at hz
    rcases hz with rfl | rfl
    · exact S.self
    · exact S.par
  have ns1 : h0.Ns s.heap.objs.size (fun x => [(f, u), (("self" : Str), Value.ref a)].lookup x) := hns
  have lself : [(f, u), (("self" : Str), Value.ref a)].lookup ("self" : Str) = some (.ref a) := by
    have : (("self" : Str) == f) = false := by
      have := S.ne
      simp only [beq_eq_false_iff_ne, ne_eq]
      exact fun e => this e.symm
    rw [List.lookup_cons, this]; rfl
  have lpar : [(f, u), (("self" : Str), Value.ref a)].lookup f = some u := by
    rw [List.lookup_cons, beq_self_eq_true]
  have X0 : K.In h0 := KX.keeps keep0
  generalize hfd : (FuncData.mk n1 n2 n3 (.stmts (iniBody f p0 p1 p2 p3 p4 p5 p6 p7 p8 p9)) n5 mainGlobals [(("__class__" : Str), c)] n8 n9 n10 n11 n12 (.ref cda) n14 builtinsNs) = fd at *
  have kd : (callEnv fd s.heap.objs.size fI).scope.kind = .function := by rw [← hfd]; exact S.kind
  have inter : interactive (callEnv fd s.heap.objs.size fI) = false := by
    unfold interactive
    rw [kd]; rfl
  have ksup : (callEnv fd s.heap.objs.size fI).kindOf "super" = some .globalImplicit := by rw [← hfd]; exact S.sup
  have kcls : (callEnv fd s.heap.objs.size fI).kindOf "__class__" = some .free := by rw [← hfd]; exact S.cls
  have kself : (callEnv fd s.heap.objs.size fI).kindOf "self" = some .local := by rw [← hfd]; exact S.self
  have kpar : (callEnv fd s.heap.objs.size fI).kindOf f = some .local := by rw [← hfd]; exact S.par
  have efun : (callEnv fd s.heap.objs.size fI).func = some fI := by rw [← hfd]; rfl
  have ecode : (callEnv fd s.heap.objs.size fI).code = .ref cda := by rw [← hfd]; rfl
  have ecell : (callEnv fd s.heap.objs.size fI).cells.lookup ("__class__" : Str) = some c := by rw [← hfd]; rfl
  have eloc : (callEnv fd s.heap.objs.size fI).locals = s.heap.objs.size := by rw [← hfd]; rfl
  have eglo : (callEnv fd s.heap.objs.size fI).globals = mainGlobals := by rw [← hfd]; rfl
  have eblt : (callEnv fd s.heap.objs.size fI).builtins = builtinsNs := by rw [← hfd]; rfl
  have hps : (fd.params.posonlyargs ++ fd.params.args).head? = some ar := by rw [← hfd]; exact hp
  generalize callEnv fd s.heap.objs.size fI = env at *
  obtain ⟨nmC, qC, NC, bsC, bmC, snC, subC, abC, colC, ddC, k0, k1, k2, k3, k5, lC, hbm⟩ := I.oex.cls
  have hcl : PySem.W.clsIn K C = some { name := nmC, bases := bsC, mro := .ref C :: bmC, ns := NC, qualname := qC, hasDict := true, slotNames := snC, subclasses := subC, abstract := abC, collection := colC, hasDel := false } := by
    unfold PySem.W.clsIn; rw [lC] <;> rfl
  have ha0 := keep0 _ _ hax
  refine ks_wpAt_execs_cons (ks_wpAt_Expr_any (ks_wpAt_MethodCall (ks_wpAt_super_base ksup kcls (by decide) efun (X0 _ _ lk) rfl hps ecode (X0 _ _ lcd) rfl hvs hfile I.top ?_) (he _)) inter (hsw _))
  refine PySem.W.ks_loadName_global kd ksup (PySem.Calls.loadGlobal_builtin (by rw [eglo]; exact gn.keeps keep0) hmg (by rw [eblt]; exact bn.keeps keep0) ((bb _ (by decide)).trans (by decide +kernel : bootBuiltins "super" = some (.type "super"))) ⟨rfl, ?_⟩)
  refine wpAny_loadName_free kd kcls ecell ⟨_, X0 _ _ lcell, rfl⟩ ?_
  refine wpAny_loadName_local kd (by rw [hself]; exact kself) (by rw [eloc]; exact ns1) (by rw [hself]; exact lself) ?_
  refine ks_wpAny_isType_cls (X0 _ _ lC) rfl ⟨rfl, ?_⟩
  obtain ⟨hs, g0, d0, tk0, os0⟩ := s
  refine ks_wpAny_call_super (X0 _ _ lC) rfl ha0 rfl (fun c' e' => by cases e') (PySem.W.looks_mroIn X0 I.sub) (fun h1 hso keep1 => ?_)
  have X1 : K.In h1 := X0.keeps keep1
  have ha1 := keep1 _ _ ha0
  have sup2 : PySem.W.alongIn K "__init__" (((Value.ref C :: bmC).dropWhile (· != .ref C)).drop 1) = some (some (.builtin "ValueError.__init__")) := by
    have := I.sup
    unfold PySem.W.ks_superIn at this
    rw [hcl] at this
    exact this
  refine PySem.W.kxs_getMethod PySem.W.kxs_ValueError hso (PySem.W.looks_opaque X1 I.stat) (l₀ := .ref C :: bmC) (fun A Q E s k q => wpAny_bind ((PySem.W.looks_clsIn X1 hcl) A _ E s k (wpAny_pure q))) rfl X1 sup2
    ((show PySem.W.InstAt h1 a _ C none from ⟨ha1, rfl, rfl, trivial⟩).type.andThen (PySem.W.looks_subIn X1 I.subV)) (fun e' => ?_) (by decide) ?_
  · rw [e'] at ha1
    rw [X1 _ _ lC] at ha1
    cases ha1
  have X2 : K.In (h1.push (PySem.W.kxs_mw "ValueError.__init__" a)) := X1.keeps fun b o e' => Heap.get?_push_of_some _ e'
  have hu : (h1.push (PySem.W.kxs_mw "ValueError.__init__" a)).get? h1.objs.size = some (PySem.W.kxs_mw "ValueError.__init__" a) := Heap.get?_push_at rfl rfl
  have keep2 : ∀ b o, hs.get? b = some o → (h1.push (PySem.W.kxs_mw "ValueError.__init__" a)).get? b = some o := fun b o e' => Heap.get?_push_of_some _ (keep1 _ _ (keep0 _ _ e'))
  have ns2 : (h1.push (PySem.W.kxs_mw "ValueError.__init__" a)).Ns hs.objs.size (fun x => [(f, u), (("self" : Str), Value.ref a)].lookup x) := ns1.keeps fun b o e' => Heap.get?_push_of_some _ (keep1 _ _ e')
  show wpAny _ _ (callWith p4 (.ref h1.objs.size) [] ((false, eval (.Name f p3) env) :: backTo p4 (starEach [] env)) []) _ _ _
  refine PySem.W.kxs_callWith (i := "ValueError.__init__") (x := a) rfl (PySem.Calls.evalArgs_plain (PySem.Calls.spliced_cons (wpAny_Name (wpAny_loadName_local kd kpar (by rw [eloc]; exact ns2) lpar (PySem.Calls.spliced_nil ⟨hu, ?_⟩)) hd1)))
  refine call_mw hu I.oex X2 (Heap.get?_push_of_some _ ha1) (show 1 ≤ sizeLine by decide) (fun h3 t3 keep3 ha3 => ?_)
  have nC : C ≠ a := fun e' => by
    have z := X2 _ _ lC
    rw [e', Heap.get?_push_of_some _ ha1] at z
    cases z
  have nL : hs.objs.size ≠ a := Nat.ne_of_gt (Heap.lt_size hax)
  have X3 : K.In h3 := fun b o e' => keep3 b o (fun z => by
    rw [z] at e'
    have z2 := (e0.bs a _ (e0.mod.kin _ _ e')).2
    rw [ha] at z2
    cases z2) (X2 b o e')
  have ns3 : h3.Ns hs.objs.size (fun x => [(f, u), (("self" : Str), Value.ref a)].lookup x) := ns2.at fun o e' => keep3 _ o nL e'
  refine ks_wpAt_execs_cons (ks_wpAt_Assign_Attr (wpAt_of_wpAny (wpAny_Name (wpAny_loadName_local kd kpar (by rw [eloc]; exact ns3) lpar (wpAny_Name (wpAny_loadName_local kd kself (by rw [eloc]; exact ns3) lself ?_) (by decide))) hd1)) (hsw2 _))
  refine PySem.W.set_plain X3 (ox := PySem.HandSPX.excO C t3) (od := none) ⟨ha3, rfl, rfl, trivial⟩ I.oex.sa ?_
  refine PySem.HandSPX.exc_osa X3 ha3 hcl (show PySem.HandSPX.refsVE (.ref C :: bmC) = true from hbm) rfl I.nof (fun h4 tk4 dx keep4 dn dne ha4 hn4 => ?_)
  refine wpAt_of_wpAny (wpAny_execs_nil ?_)
  have hsz : hs.objs.size ≤ dx := by
    have l1 : h1.objs.size < h3.objs.size := by
      obtain ⟨o, ho⟩ : ∃ o, h3.get? h1.objs.size = some o := by
        by_cases z : h1.objs.size = a
        · exact ⟨_, by rw [z]; exact ha3⟩
        · exact ⟨_, keep3 _ _ z hu⟩
      exact Heap.lt_size ho
    have l2 : hs.objs.size ≤ h1.objs.size := by
      obtain ⟨oL, _, _, hL, _⟩ := ns1
      exact Nat.le_of_lt (Heap.lt_size (keep1 _ _ hL))
    have l3 : h3.objs.size ≤ dx := dn
    omega
  have nd : H dx = none := e0.hok.fresh hsz
  have nda : ∀ {b : Addr} {o : Obj}, hs.get? b = some o → b ≠ dx := fun {b o} z => Nat.ne_of_lt (Nat.lt_of_lt_of_le (Heap.lt_size z) hsz)
  have na : ∀ {b : Addr}, H b = none → b ≠ a := fun {b} n z => by
    rw [z, ha] at n
    cases n
  have keep : ∀ b o, b ≠ a → hs.get? b = some o → h4.get? b = some o := fun b o n z => keep4 b o n (keep3 b o n (keep2 b o z))
  refine ⟨.non, _, rfl, e0.bare, ⟨fun b o z n _ _ => keep b o (na n) z, fun b o z n _ _ => ⟨o.slots, keep b o (na n) z⟩, fun b o z n _ => by rw [upd_ne (na n), upd_ne (nda z)]; exact n, fun b o z _ => ?_, fun b xs z => ?_, fun b o v z => ?_, fun b ps z => ⟨#[], ?_⟩⟩, fun b o z => ?_, rfl, cont dx nd dne⟩
  · by_cases n : b = a
    · exact ⟨_, by rw [n]; exact ha4⟩
    · exact ⟨o, keep b o n z⟩
  · rw [upd_ne (at_ne ha z exo_tup), upd_ne (ne_of_none z nd)]; exact z
  · rw [upd_ne (at_ne ha z exo_frz), upd_ne (ne_of_none z nd)]; exact z
  · rw [upd_ne (at_ne ha z exo_tbl), upd_ne (ne_of_none z nd), z]; simp
  · by_cases n : b = a
    · rw [n, upd_same] at z
      cases z
      rw [n]
      exact exo_ok ha4
    · rw [upd_ne n] at z
      by_cases m : b = dx
      · rw [m, upd_same] at z
        cases z
        rw [m]
        exact exd_ok hn4 (relO_put (fs := []) ry fun g => True.intro)
      · rw [upd_ne m] at z
        exact (e0.hok b o z).stay (fun e v he' hz => keep e v (by
            rcases he' with he' | he'
            · rw [he']; exact n
            · exact at_ne ha he' exo_own) hz)
          (fun e he' => by rw [upd_ne (at_ne ha he' exo_own), upd_ne (ne_of_none he' nd)]; exact he') (fun e xs he' => by rw [upd_ne (at_ne ha he' exo_tup), upd_ne (ne_of_none he' nd)]; exact he')
end
end PB

/-! PH: the head tells own exceptions too; raising and catching them; a lambda that is called in a try. -/
namespace PB
open PySem PySem.Spec L2
open PyProof.Rows hiding St
/-- an own exception: its name, its field, its __init__ -/
structure IniD where
  x : Str
  f : Str
  params : Arguments
  body : List Stmt
  scope : Scope
abbrev IniW : Type := Option (Str × Arguments × FuncBody × Scope × Addr × List Str × Addr)
def clsA (K : PySem.W.Frag) (x : Str) : Addr := He.ga K x
def iniA (K : PySem.W.Frag) (x : Str) : Addr := He.ma K (He.ga K x) "__init__"
def iniW (K : PySem.W.Frag) (x : Str) : IniW := match K.lookup (iniA K x) with
  | some ⟨_, _, .func fd, _⟩ => some (fd.qualname, fd.params, fd.body, fd.scope, fd.globals, fd.closure.map (·.1), fd.builtins)
  | _ => none
def IniD.val (d : IniD) : IniW := some (d.x ++ ".__init__", d.params, .stmts d.body, d.scope, mainGlobals, ["__class__"], builtinsNs)
def oexB (K : PySem.W.Frag) (C : Addr) : Bool := (match K.lookup C with
  | some ⟨.type "type", _, .cls cd, sl⟩ => (match cd.mro, sl.toList with
    | .ref C' :: bm, [_, _, _, _, some (.builtin n), _] => C' == C && (n == "ValueError.__new__" && (!cd.hasDel && (cd.hasDict && PySem.HandSPX.refsVE bm)))
    | _, _ => false)
  | _ => false)
def cloB (K : PySem.W.Frag) (file q : Str) (C fI : Addr) : Bool := match K.lookup fI with
  | some ⟨_, _, .func fd, _⟩ => (PySem.W.codeIn K fd.code q && (decide (fd.defaults = .none) && decide (fd.kwdefaults = .none))) && ((match fd.code with
    | .ref c => (match K.lookup c with
      | some ⟨_, _, .fields vs, _⟩ => (match vs[2]? with
        | some (Value.str g _) => file == g
        | _ => false)
      | _ => false)
    | _ => false) && (match fd.closure with
    | [(_, c)] => (match K.lookup c with
      | some ⟨_, _, .cell (some (.ref D)), _⟩ => D == C
      | _ => false)
    | _ => false))
  | _ => false
def eqS (a b : Option (Option Value)) : Bool := decide (a = b)
/-- all that is asked of K for such a class -/
def iniB (P : Program) (K : PySem.W.Frag) (d : IniD) : Bool :=
  oexB K (clsA K d.x) && (cloB K P.main.file (d.x ++ ".__init__") (clsA K d.x) (iniA K d.x) && (!(P.main.scope.names.lookup ("super" : Str)).isSome && (decide (PySem.W.mroIn K (clsA K d.x) (.ref (clsA K d.x)) = some true) &&
  (decide (PySem.W.subIn K (.ref (clsA K d.x)) (.type "ValueError") = some true) && (eqS (PySem.W.ks_superIn K (clsA K d.x) (clsA K d.x) "__init__") (some (some (.builtin "ValueError.__init__"))) && (eqS (PySem.W.nsIn K cStatics "thirdparty.any") (some none) &&
  (eqS (PySem.W.findIn K (.ref (clsA K d.x)) d.f) (some none) && (eqS (PySem.W.nsIn K mainGlobals "super") (some none) && (eqS (PySem.W.findIn K (.ref (clsA K d.x)) "__setattr__") (some (some (.builtin "object.__setattr__"))) &&
  (decide (PySem.W.typeIn K (.ref (clsA K d.x)) = some (.type "type")) && (PySem.W.keepIn K (.ref (clsA K d.x)) && (xfB K (clsA K d.x) && (eqS (PySem.W.findIn K (.ref (clsA K d.x)) "__init__") (some (some (.ref (iniA K d.x)))) &&
  (decide (PySem.W.typeIn K (.ref (iniA K d.x)) = some (.type "function")) && (decide (PySem.W.exmOne K (.ref (clsA K d.x)) (.ref (clsA K d.x)) = some true) && eqS (PySem.W.nsIn K mainGlobals d.x) (some (some (.ref (clsA K d.x)))))))))))))))))))
theorem oexB_ok {K : PySem.W.Frag} {C : Addr} (h : oexB K C = true) : ∃ nm q N bs bm sn sub ab col dd k0 k1 k2 k3 k5, K.lookup C = some (excClassObj nm q C N bs bm true sn sub ab col dd k0 k1 k2 k3 k5 "ValueError.__new__") ∧ PySem.HandSPX.refsVE bm = true := by
  unfold oexB at h
  split at h
  · rename_i dd cd sl ho
    split at h
    · rename_i C' bm k0 k1 k2 k3 n k5 hm hs
      simp only [Bool.and_eq_true, beq_iff_eq, Bool.not_eq_true'] at h
      obtain ⟨rfl, rfl, hdel, hdict, hv⟩ := h
      obtain ⟨nm, bs, mro, ns, qn, hd, sn, sub, ab, col, del⟩ := cd
      dsimp only at hm hdel hdict
      subst hm hdel hdict
      obtain ⟨l⟩ := sl
      dsimp only at hs
      subst hs
      exact ⟨nm, qn, ns, bs, bm, sn, sub, ab, col, dd, k0, k1, k2, k3, k5, ho, hv⟩
    · cases h
  · cases h
/-- the facts of one class -/
structure IniF (P : Program) (K : PySem.W.Frag) (d : IniD) : Prop where
  ic : ∃ fd c, IniC P K (clsA K d.x) (iniA K d.x) d.f fd (d.x ++ ".__init__") d.scope c ∧ fd.params = d.params ∧ fd.body = .stmts d.body
  xf : XfC K (clsA K d.x)
  init : PySem.W.findIn K (.ref (clsA K d.x)) "__init__" = some (some (.ref (iniA K d.x)))
  tyI : PySem.W.typeIn K (.ref (iniA K d.x)) = some (.type "function")
  exm : PySem.W.exmOne K (.ref (clsA K d.x)) (.ref (clsA K d.x)) = some true
  glo : PySem.W.nsIn K mainGlobals d.x = some (some (.ref (clsA K d.x)))
theorem iniF_of {P : Program} {K : PySem.W.Frag} {d : IniD} (e : iniW K d.x = d.val) (h : iniB P K d = true) : IniF P K d := by
  unfold iniB at h
  simp only [Bool.and_eq_true, eqS, decide_eq_true_eq, Bool.not_eq_true'] at h
  obtain ⟨h1, h2, h3, h4, h5, h6, h7, h8, h9, h10, h11, h12, h13, h14, h15, h16, h17⟩ := h
  refine ⟨?_, xfB_ok h13, h14, h15, h16, h17⟩
  unfold iniW at e
  unfold cloB at h2
  split at e
  · rename_i oc od fd osl lk
    rw [lk] at h2
    obtain ⟨n1, n2, n3, n4, n5, n6, n7, n8, n9, n10, n11, n12, n13, n14, n15⟩ := fd
    unfold IniD.val at e
    simp only [Option.some.injEq, Prod.mk.injEq] at e
    obtain ⟨e1, e2, e3, e4, e5, e6, e7⟩ := e
    subst e1 e2 e3 e4 e5 e7
    simp only [Bool.and_eq_true, decide_eq_true_eq] at h2
    obtain ⟨⟨g1, d1, d2⟩, g2, g3⟩ := h2
    have file : ∃ cda ccl cdd ccs vs file tf, n13 = .ref cda ∧ K.lookup cda = some ⟨ccl, cdd, .fields vs, ccs⟩ ∧ vs[2]? = some (.str file tf) ∧ ((P.main.file : Str) == file) = true := by
      split at g2
      · rename_i c
        split at g2
        · rename_i ccl cdd vs ccs lc
          split at g2
          · rename_i file tf hv
            exact ⟨c, ccl, cdd, ccs, vs, file, tf, rfl, lc, hv, g2⟩
          · cases g2
        · cases g2
      · cases g2
    have clo : ∃ c, n7 = [(("__class__" : Str), c)] ∧ ∃ cl cld csl, K.lookup c = some ⟨cl, cld, .cell (some (.ref (clsA K d.x))), csl⟩ := by
      split at g3
      · rename_i y c
        split at g3
        · rename_i cl cld D csl lc
          simp only [List.map_cons, List.map_nil, List.cons.injEq, and_true] at e6
          have := beq_iff_eq.mp g3
          subst this
          exact ⟨c, by rw [e6], cl, cld, csl, lc⟩
        · cases g3
      · cases g3
    obtain ⟨c, c1, c2⟩ := clo
    have xf := xfB_ok h13
    exact ⟨_, c, ⟨⟨oexB_ok h1, h10, xf.exC, h11, h12⟩, ⟨oc, od, osl, lk⟩, g1, file, by simpa using h3, c2, c1, rfl, rfl, rfl, rfl, d1, d2, h4, h5, h6, h7, h8, h9⟩, rfl, rfl⟩
  · cases e
/-! ### the Hook -/
def asI (g : Addr → Option Obj) (n : Nat) : List Addr := He.asD g n ++ [cStatics]
abbrev AlI : Type := (He.AlT × Bool) × List IniW
def obsI (n : Nat) (fa : List He.Fa) (fn : List He.DefD) (ts : List He.Tab) (tf : List He.Defn) (is : List IniD) (ex : PySem.W.Frag → Bool) (g : Addr → Option Obj) : AlI :=
  ((He.obsT fa fn ts (He.frT g (asI g n)), ex (He.frT g (asI g n)) && He.tabsB g tf (He.frT g (asI g n))), is.map fun d => iniW (He.frT g (asI g n)) d.x)
def valI (fn : List He.DefD) (ts : List He.Tab) (is : List IniD) (w : World) : AlI := ((He.valT fn ts w, true), is.map IniD.val)
structure SaysI (fa : List He.Fa) (fn : List He.DefD) (ts : List He.Tab) (tf : List He.Defn) (is : List IniD) (ex : PySem.W.Frag → Bool) (w : World) (h : Heap) (K : PySem.W.Frag) : Prop where
  x : He.SaysX fa fn ts tf ex w h K
  ini : (is.map fun d => iniW K d.x) = is.map IniD.val
theorem saysI_of {n : Nat} {fa : List He.Fa} {fn : List He.DefD} {ts : List He.Tab} {tf : List He.Defn} {is : List IniD} {ex : PySem.W.Frag → Bool} {w : World} {h : Heap} (e : obsI n fa fn ts tf is ex h.get? = valI fn ts is w) :
    SaysI fa fn ts tf is ex w h (He.frT h.get? (asI h.get? n)) := by
  have e1 : He.obsT fa fn ts (He.frT h.get? (asI h.get? n)) = He.valT fn ts w := congrArg (fun z : AlI => z.1.1) e
  have e2 : (ex (He.frT h.get? (asI h.get? n)) && He.tabsB h.get? tf (He.frT h.get? (asI h.get? n))) = true := congrArg (fun z : AlI => z.1.2) e
  have e3 : (is.map fun d => iniW (He.frT h.get? (asI h.get? n)) d.x) = is.map IniD.val := congrArg (fun z : AlI => z.2) e
  rw [Bool.and_eq_true] at e2
  have at_ : ∀ p ∈ tf, PySem.W.codeHdIn (He.frT h.get? (asI h.get? n)) (He.cT (He.frT h.get? (asI h.get? n)) p).1 (He.cT (He.frT h.get? (asI h.get? n)) p).2 = true ∧ ∃ o, h.get? (He.cT (He.frT h.get? (asI h.get? n)) p).2 = some o ∧ He.emptyTab o = true := fun p hp => by
    have q := List.all_eq_true.mp e2.2 p hp
    rw [Bool.and_eq_true] at q
    refine ⟨q.1, ?_⟩
    have q2 := q.2
    split at q2
    · rename_i o ho
      exact ⟨o, ho, q2⟩
    · cases q2
  refine ⟨⟨e1, e2.1, fun p hp => (at_ p hp).1, fun p hp => ?_, fun p hp => ?_⟩, e3⟩
  · obtain ⟨_, o, ho, z⟩ := at_ p hp
    exact He.frT_none ho z
  · obtain ⟨_, o, ho, z⟩ := at_ p hp
    rw [ho, He.emptyTab_eq z]
def hookI (n : Nat) (fa : List He.Fa) (fn : List He.DefD) (ts : List He.Tab) (tf : List He.Defn) (is : List IniD) (ex : PySem.W.Frag → Bool) : PySem.W.Hook where
  α := AlI
  obs := fun s => obsI n fa fn ts tf is ex s.heap.get?
  val := fun w => valI fn ts is w
  says := fun w h => ∃ K : PySem.W.Frag, K.In h ∧ SaysI fa fn ts tf is ex w h K
  of := fun _ _ e => ⟨_, He.frT_in, saysI_of e⟩
  keeps := fun _ _ _ ⟨K, hK, c⟩ k => ⟨K, PySem.W.Frag.In.keeps hK k, ⟨⟨c.x.t, c.x.more, c.x.hd, c.x.out, fun p hp => k _ _ (c.x.empty p hp)⟩, c.ini⟩⟩
theorem obsI_eq {n : Nat} {fa : List He.Fa} {fn : List He.DefD} {ts : List He.Tab} {tf : List He.Defn} {is : List IniD} {ex : PySem.W.Frag → Bool} {g : Addr → Option Obj} {s : Shared} (h : ∀ a, g a = s.heap.get? a) : obsI n fa fn ts tf is ex g = (hookI n fa fn ts tf is ex).obs s := by
  have e : g = s.heap.get? := funext h
  rw [e]; rfl
theorem SaysI.iniF {P : Program} {fa : List He.Fa} {fn : List He.DefD} {ts : List He.Tab} {tf : List He.Defn} {is : List IniD} {ex : PySem.W.Frag → Bool} {w : World} {h : Heap} {K : PySem.W.Frag} (c : SaysI fa fn ts tf is ex w h K) (hex : ∀ K d, ex K = true → d ∈ is → iniB P K d = true) (i : Nat) {d : IniD} (hi : is[i]? = some d := by rfl) : IniF P K d := by
  have e2 : (is.map fun d => iniW K d.x)[i]? = (is.map IniD.val)[i]? := by rw [c.ini]
  rw [List.getElem?_map, List.getElem?_map, hi] at e2
  exact iniF_of (Option.some.inj e2) (hex K d c.x.more (List.mem_of_getElem? hi))
/-! ### raising -/
/-- the own exception by its name -/
def Own (P : Program) (w : World) (K : PySem.W.Frag) (mg : Str → Option Value) (base : Heap) (k : Nat) (x f : Str) : Prop :=
  mg x = some (.ref (clsA K x)) ∧ OexC K (clsA K x) ∧ PySem.W.findIn K (.ref (clsA K x)) "__init__" = some (some (.ref (iniA K x))) ∧ PySem.W.typeIn K (.ref (iniA K x)) = some (.type "function") ∧
    (XfC K (clsA K x) ∧ PySem.W.findIn K (.ref (clsA K x)) f = some none) ∧ PySem.W.exmOne K (.ref (clsA K x)) (.ref (clsA K x)) = some true ∧
    ∃ fd, FnOk P w K mg base (L2.CX P w) k (iniA K x) fd ["self", f] (spIni (clsA K x) f) ∧ Binds K fd ["self", f] []
theorem own_of {P : Program} {w : World} {K : PySem.W.Frag} {mg : Str → Option Value} {base : Heap} {d : IniD} {ar : Arg} {p0 p1 p2 p3 p4 p5 p6 p7 p8 p9 : Pos} {pl : Env → Sem Bool} (F : IniF P K d) (kin : K.In base) (gl : base.Ns mainGlobals mg) (S : IniS d.f d.scope)
    (hb : d.body = iniBody d.f p0 p1 p2 p3 p4 p5 p6 p7 p8 p9) (hp : (d.params.posonlyargs ++ d.params.args).head? = some ar) (hself : ar.arg = ("self" : Str)) (hd1 : (d.f == ("__debug__" : Str)) = false)
    (he : ∀ env : Env, eval (.Call (.Attribute (.Call (.Name "super" p0) [] [] p1) "__init__" p2) [.Name d.f p3] [] p4) env = (do
      let ov ← attributeBase (.Call (.Name "super" p0) [] [] p1) "__init__" env (eval (.Call (.Name "super" p0) [] [] p1) env)
      standAt p2.atName
      let (g, first) ← holding [ov] (getMethod ov "__init__" (pl env))
      callWith p4 g first (backTo p4 (starEach [.Name d.f p3] env)) []))
    (hsw : ∀ env : Env, swapsWith (.Call (.Attribute (.Call (.Name "super" p0) [] [] p1) "__init__" p2) [.Name d.f p3] [] p4) none p5.line env = pure false)
    (hsw2 : ∀ env : Env, swapsWith (.Name d.f p8) (some (.Attribute (.Name "self" p6) d.f p7)) p9.line env = pure false)
    (hbind : ∀ (n1 : Str) (c : Addr) (doc pm cd ct : Value) (an : Option Addr) (us : List Value), us.length = 2 → bindArgs (FuncData.mk n1 (d.x ++ ".__init__") d.params (.stmts d.body) d.scope mainGlobals [(("__class__" : Str), c)] .none .none doc pm an cd ct builtinsNs) ⟨us, []⟩ = pure ((["self", d.f] : List Str).zip us)) :
    Own P w K mg base 1 d.x d.f := by
  obtain ⟨fd, c, I, e1, e2⟩ := F.ic
  refine ⟨PySem.W.mg_of kin gl F.glo, I.oex, F.init, F.tyI, ⟨F.xf, I.nof⟩, F.exm, fd, ini_ok I S (by rw [e2, hb]) (by rw [e1]; exact hp) hself hd1 (PySem.W.mg_none_of kin gl I.nosup) he hsw hsw2, ?_⟩
  refine Binds.all fun us hl => ?_
  obtain ⟨n1, n2, n3, n4, n5, n6, n7, n8, n9, n10, n11, n12, n13, n14, n15⟩ := fd
  have h2 := I.qual
  have h4 := I.scope
  have h7 := I.clo
  have h6 := I.gl
  have h15 := I.bi
  have h8 := I.dfl
  have h9 := I.kwd
  dsimp only at e1 e2 h2 h4 h7 h6 h15 h8 h9
  subst e1 e2 h2 h4 h7 h6 h15 h8 h9
  exact hbind _ _ _ _ _ _ _ _ hl
/-- what a raise of it wants: the exception is new, its dict has the field -/
def mkQ (C : Addr) (f : Str) (R : XK) : VK := fun y H1 => [y].length ≤ 1000 ∧ ∀ a, H1 a = none → spIni C f (.ref a :: ([y] ++ [])) (upd H1 a (exo a C none))
  (fun v H2 => v = .non ∧ ∃ (d : Addr) (fs : List (Str × V)), H2 a = some (exo a C (some d)) ∧ H2 d = some (exd d fs) ∧ H1 d = none ∧ R (.ref C) (some d) (upd (del H2 a) d (.xd fs))) (fun _ _ _ => False)
def tRais (C : Addr) (f : Str) (te : TE) (W : WX) : TS := fun _ σ H => te σ H (mkQ C f fun cls d H' => W cls d σ H')
theorem r_rais {C : Addr} {f : Str} {te : TE} {W : WX} {D : Ends} {σ : St} {H : Hp} (h : te σ H (mkQ C f fun cls d H' => W cls d σ H')) : tRais C f te W D σ H := h
theorem r_mkQ {C : Addr} {f : Str} {R : XK} {y : V} {H : Hp} (h : ∀ d H', H d = none → Ex H H' → H' d = some (.xd [(f, y)]) → R (.ref C) (some d) H') : mkQ C f R y H := by
  refine ⟨(show 1 ≤ 1000 by decide), fun a ha => ⟨a, y, rfl, upd_same, fun dx hd hda => ⟨rfl, dx, [(f, y)], upd_same, ?_, ?_, h dx _ ?_ (fun b o hb => ?_) upd_same⟩⟩⟩
  · rw [upd_ne hda, upd_same]
  · rw [upd_ne hda] at hd
    exact hd
  · rw [upd_ne hda] at hd
    exact hd
  · rw [upd_ne hda] at hd
    have n1 : b ≠ dx := fun e => by rw [e, hd] at hb; cases hb
    have n2 : b ≠ a := fun e => by rw [e, ha] at hb; cases hb
    rw [upd_ne n1, del_ne n2, upd_ne n2, upd_ne n1, upd_ne n2]
    exact hb
theorem ps_own {X : Cx} {K : PySem.W.Frag} {W : WX} {k j : Nat} {x f : Str} {e : Expr} {te : TE} {p pos pos' : Pos} (eK : X.K = K) (O : Own X.prog X.w X.K X.mg X.base k x f) (hc : X.calm = true) (tk : Takes X W) (hr : Room j X.A) (hk : k + 1 ≤ j) (hx : Passes (L2.CX X.prog X.w) X fun _ _ _ => False) (he : PE X e te)
    (hg : Gl X x := by rfl) (hdb : (x == ("__debug__" : Str)) = false := by decide) (hs : starEach [e] X.env = [(false, eval e X.env)] := by rfl) :
    PS X (.Raise (some (.Call (.Name x p) [e] [] pos)) none pos') (tRais (clsA K x) f te W) := by
  subst eK
  obtain ⟨hm, T, iC, tI, _, _, fd, F, b⟩ := O
  exact ps_raise hc tk (pmk_oex (e := e) (es := []) T iC tI F (hr.mono hk) b .nil hx hg hm (pa_cons he pa_nil hs) hdb hs rfl)
/-! ### a lambda called in a try -/
/-- what it was: what the exception's field says, or ret -/
def TTref (C : Addr) (f ret : Str) : (XK → Hp → VK → Prop) → Hp → VK → Prop := fun tl H Q =>
  tl (fun cls d H' => cls = .ref C ∧ ∃ dd v, d = some dd ∧ H' dd = some (.xd [(f, v)]) ∧ Q v H') H fun _ H' => Q (.str ret) H'
theorem takes_len {X : Cx} {W : WX} {n : Nat} (hn : X.N.length = n) (t : Takes X W) : Takes X fun cls d σ H => σ.length = n → W cls d σ H := fun u s' ⟨a, B, sI, pins, σ, H, cls, d, e, I, nb, up, sky, na, os, ag, q⟩ =>
  t u s' ⟨a, B, sI, pins, σ, H, cls, d, e, I, nb, up, sky, na, os, ag, q (by rw [← hn]; exact I.len)⟩
theorem ref_gives {X : Cx} {x a e n f q ret : Str} {sg : Scope} {g CS : Addr} {cdg : Value} {j : Nat} {p1 p2 p3 p4 p5 p6 p7 p8 p9 p10 p11 : Pos} (hge : sg.names.lookup e = some .globalImplicit) (hme : X.mg e = some (.ref CS)) (hde : (e == ("__debug__" : Str)) = false)
    (T : XfC X.K CS) (hno : PySem.W.findIn X.K (.ref CS) f = some none) (hex : PySem.W.exmOne X.K (.ref CS) (.ref CS) = some true) (hnd : [a, n].Nodup) (hln : sg.names.lookup n = some .local) (hn1 : (n == ("__debug__" : Str)) = false) (hn2 : (n == ("__classdict__" : Str)) = false)
    (hb : ∀ env : Env, attributeBase (.Name n p5) f env (eval (.Name n p5) env) = eval (.Name n p5) env) (hsw : ∀ env : Env, swapsWith (.Call (.Name a p1) [] [] p2) none p3.line env = pure false) :
    LamX.GivesTo X [a, n] x sg g cdg [.Try [.Expr (.Call (.Name a p1) [] [] p2) p3] [.ExceptHandler (some (.Name e p4)) (some n) [.Return (some (.Attribute (.Name n p5) f p6)) p7] p8] [] [] p9, .Return (some (.Constant (.str ret) j p10)) p11] a q (TTref CS f ret) := by
  intro fa c' s H Q tl act hc h
  have hgl : Gl (cxOf C8.CX0 X.prog X.w X.K X.mg X.base [a, n] x sg g cdg X.A X.stack s H C8.E0).nox e := hge
  refine ⟨_, pss_cons (ps_try_as (X := (cxOf C8.CX0 X.prog X.w X.K X.mg X.base [a, n] x sg g cdg X.A X.stack s H C8.E0).nox) (c := .ref CS) (i := 1)
      (tb := fun W D σ H => ∃ Ech : XK, (∀ cls d σ' H', σ'.length = 2 → Ech cls d H' → W cls d σ' H') ∧ σ[0]? = some (some (.ref fa)) ∧ H c' = some (LamX.CodeO c' q) ∧ tl Ech H fun _ H' => D.nx σ H')
      rfl rfl hnd rfl hln ⟨hgl, hde, .inl hme⟩ LamX.takes0 (fun W pn xe tk _ => ?_) (fun b oe cls d pn hz hf => pss_one (ps_ret (pe_xf T hno hz hf (pe_var (i := 1) rfl (.inl hln) hn1 hn2) (hb _))))) (pss_one (ps_ret pe_str)), ?_⟩
  · refine ⟨fun pins s' σ H' D I h' => ?_⟩
    obtain ⟨Ech, hW, h1, h2, h3⟩ := h'
    have hp := act _ pn xe Ech p1 p2 (takes_len (n := 2) rfl tk) fun cls d σ' H' k l => hW cls d σ' H' l k
    exact (pss_one (ps_expr hp (hsw _))).run pins s' σ H' D I ⟨h1, h2, h3⟩
  · refine ⟨fun cls d H' => cls = .ref CS ∧ ∃ dd v, d = some dd ∧ H' dd = some (.xd [(f, v)]) ∧ Q v H', fun cls d σ' H' hl hE => ?_, rfl, hc, h⟩
    obtain ⟨rfl, dd, v, rfl, hd, hq⟩ := hE
    refine ⟨true, hex, fun _ b hb' => ?_, fun z => by cases z⟩
    match σ', hl with
    | [s0, s1], _ => exact ⟨.ref b, rfl, rfl, rfl, dd, [(f, v)], v, rfl, hd, by rw [List.lookup_cons, beq_self_eq_true], hq⟩
end PB

/-! PF: lambdas handed to a def that calls them in a try; keyword calls without a positional argument. -/
namespace PB
open PySem PySem.Spec L2
open PyProof.Rows hiding St
/-- heaps: all but the tables of code stands -/
abbrev ExN (H H' : Hp) : Prop := LamX.ExtN H H'
theorem ExN.of {H H' : Hp} (e : Ex H H') : ExN H H' := fun b o h _ => e b o h
theorem ExN.refl (H : Hp) : ExN H H := fun _ _ h _ => h
theorem ExN.tr {A B C : Hp} (a : ExN A B) (b : ExN B C) : ExN A C := fun x o h n => b x o (a x o h n) n
theorem sqT_exn {K : PySem.W.Frag} {H H' : Hp} {a : Addr} {xs : List V} (e : ExN H H') (h : SqT K H a xs) : SqT K H' a xs := by
  rcases h with (h | ⟨o, h⟩) | h
  · exact .inl (.inl (e _ _ h fun _ z => by cases z))
  · exact .inl (.inr ⟨o, e _ _ h fun _ z => by cases z⟩)
  · exact .inr h
theorem sqL_exn {K : PySem.W.Frag} {H H' : Hp} {a : Addr} {xs : List V} (e : ExN H H') (h : SqL K H a xs) : SqL K H' a xs := by
  rcases h with (h | ⟨o, h⟩) | h
  · exact .inl (.inl (e _ _ h fun _ z => by cases z))
  · exact .inl (.inr ⟨o, e _ _ h fun _ z => by cases z⟩)
  · exact .inr h
/-- a def's body, its code object known -/
theorem fnL_of {P : Program} {w : World} {K : PySem.W.Frag} {mg : Str → Option Value} {base : Heap} {x : Str} {a : Arguments} {b : List Stmt} {sc : Scope} {fd : FuncData} {N ps : List Str} {k : Nat} {sp : Sp} (F : FunD K x x a b sc [] [] (He.fAd K (x, none)) fd) (S : FnScope N ps sc)
    (len : ∀ vs H Q E, sp vs H Q E → vs.length = ps.length)
    (hbody : ∀ (cdv : Value) (A : Around) (outer : List Env) (s : Shared) (H : Hp) (vs : List V) (Q : VK) (E : XK), cdv = .ref (He.codeOf K (x, none)) → (A.deeper (envOfC x sc s.heap.objs.size (He.fAd K (x, none)) cdv)).guards = some [] → Room k (A.deeper (envOfC x sc s.heap.objs.size (He.fAd K (x, none)) cdv)) → sp vs H Q E →
      ∃ t, PSs (cxOf (L2.CX P w) P w K mg base N x sc (He.fAd K (x, none)) cdv A outer s H E) b t ∧ t { nx := fun _ H' => Q .non H', rt := Q } (start N vs) H) : FnG P w K mg base (k + 1) (He.fAd K (x, none)) fd ps sp := by
  obtain ⟨oc, od, dV, kV, doc, pm, an, cdv, ct, osl, rfl, lk, hcd, _, _⟩ := F.ex
  obtain ⟨c, rfl⟩ := He.codeIn_ref hcd
  have ec : c = He.codeOf K (x, none) := (He.codeOf_eq lk rfl).symm
  exact ⟨len, fun A outer s H args us vs Q E hg hr e0 hb r h => LamX.run_ofS lk hcd S hr e0 hb r (len _ _ _ _ h) fun hr' => hbody (.ref c) A outer s H vs Q E (by rw [ec]) hg hr' h⟩
section
variable {P : Program} {w : World} {fa : List He.Fa} {fn : List He.DefD} {K : PySem.W.Frag} {mg : Str → Option Value} {base : Heap}
theorem Ct.calL (C : Ct fa fn K mg base) (i j : Nat) {x : Str} {a : Arguments} {b : List Stmt} {sc : Scope} (hd : fn[i]? = some ⟨(x, none), x, x, a, b, sc, [], []⟩) (hj : fa[j]? = some (.glo x)) {N ps : List Str} {k : Nat} {sp : Sp} (S : FnScope N ps sc)
    (hb : ∀ (kV doc pm : Value) (an : Option Addr) (cdv ct : Value) (us : List Value), us.length = ps.length → bindArgs (PySem.W.fnOf x x a b sc .none kV doc pm an cdv ct) ⟨us, []⟩ = pure (ps.zip us))
    (len : ∀ vs H Q E, sp vs H Q E → vs.length = ps.length)
    (hbody : ∀ (cdv : Value) (A : Around) (outer : List Env) (s : Shared) (H : Hp) (vs : List V) (Q : VK) (E : XK), cdv = .ref (He.codeOf K (x, none)) → (A.deeper (envOfC x sc s.heap.objs.size (He.fAd K (x, none)) cdv)).guards = some [] → Room k (A.deeper (envOfC x sc s.heap.objs.size (He.fAd K (x, none)) cdv)) → sp vs H Q E →
      ∃ t, PSs (cxOf (L2.CX P w) P w K mg base N x sc (He.fAd K (x, none)) cdv A outer s H E) b t ∧ t { nx := fun _ H' => Q .non H', rt := Q } (start N vs) H) : CalG P w K mg base (k + 1) x ps sp := by
  obtain ⟨fd, F⟩ := C.says.def_ i hd
  exact ⟨_, fd, He.glo_ok C.kin C.glob (C.says.fact j hj), F.kp, fnL_of F S len hbody, FunD.bindsN F hb⟩
end
/-- the def that calls its lambda in a try -/
def Ref (K : PySem.W.Frag) (mg : Str → Option Value) (x : Str) (C : Addr) (f ret : Str) : Prop :=
  ∃ (g : Addr) (oc : Value) (od : Option Addr) (osl : Array (Option Value)) (pg : Arguments) (bg : List Stmt) (sg : Scope) (dV kV doc pm cdv ct : Value) (an : Option Addr) (a n : Str),
    K.lookup g = some ⟨oc, od, .func (PySem.W.fnOf x x pg bg sg dV kV doc pm an cdv ct), osl⟩ ∧ PySem.W.keepIn K (.ref g) = true ∧ PySem.W.codeIn K cdv x = true ∧ mg x = some (.ref g) ∧ L2.Binds K (PySem.W.fnOf x x pg bg sg dV kV doc pm an cdv ct) [a] [] ∧
      FnScope [a, n] [a] sg ∧ sg.names.lookup a = some .local ∧ ((a == ("__debug__" : Str)) = false ∧ (a == ("__classdict__" : Str)) = false) ∧ ∀ X : Cx, X.K = K → X.mg = mg → ∀ q, LamX.GivesTo X [a, n] x sg g cdv bg a q (TTref C f ret)
theorem pe_ref {X : Cx} {T : List (Addr × Str)} {x f ret : Str} {CS c P : Addr} {k j : Nat} {params : Arguments} {body : Expr} {scope : Scope} {t : XK → TE} {p lpos pos : Pos} (R : Ref X.K X.mg x CS f ret) (TB : LamX.TabB X.base X.mg c P) (hcode : X.env.code = .ref c) (hT : T = [(P, X.env.qual ++ "<lambda>")])
    (hr : Room j X.A) (hk : k + 2 ≤ j) (L : LamX.LamS X.env.scope scope) (hdef : defaultsOf params X.env = ([], [])) (hbind : ∀ (q : Str) (cl : List (Str × Addr)) (pm cv ctv : Value), bindArgs (PySem.W.kla_fn "<lambda>" q params body scope cl pm cv ctv) ⟨[], []⟩ = pure [])
    (hbody : ∀ (A : Around) (outer : List Env) (s : Shared) (H : Hp) (E : XK) (f c' : Addr), Room k (A.deeper (LamX.lamEnv X scope s.heap.objs.size f c')) → PE (LamX.lamCx X A outer s H E scope f c') body (t E))
    (hg : Gl X x := by rfl) (hdb : (x == ("__debug__" : Str)) = false := by decide) : PE X (.Call (.Name x p) [.Lambda params body scope lpos] [] pos) (LamX.tLam T (TTref CS f ret) t) := by
  obtain ⟨g, oc, od, osl, pg, bg, sg, dV, kV, doc, pm, cdv, ct, an, a, n, lk, kp, hcg, hm, hb, Sg, hla, ⟨d1, d2⟩, G⟩ := R
  refine LamX.pe_lamcall (c := c) (P := P) hg hm kp lk hcg hb Sg rfl (.inl hla) (G X rfl rfl _) TB hcode (by rw [hT]; exact List.mem_singleton.mpr rfl) (fun q hq _ => by rw [hT] at hq; rw [List.mem_singleton.mp hq]) (hr.mono hk) L hdef hbind hbody hdb d1 d2
theorem r_ref {T : List (Addr × Str)} {CS : Addr} {f ret : Str} {t : XK → TE} {σ : St} {H : Hp} {Q : VK} (hT : LamX.Tabs T H) (h : ∀ H1, ExN H H1 → LamX.Tabs T H1 → t (fun cls d H' => cls = .ref CS ∧ ∃ dd v, d = some dd ∧ H' dd = some (.xd [(f, v)]) ∧ Q v H') σ H1 fun _ H' => Q (.str ret) H') : LamX.tLam T (TTref CS f ret) t σ H Q := ⟨hT, fun H1 e1 e2 => h H1 e1 e2⟩
/-! ### keywords only -/
/-- such a def by its keywords, in any order -/
def CalK (P : Program) (w : World) (K : PySem.W.Frag) (mg : Str → Option Value) (base : Heap) (k : Nat) (x : Str) (ks : List Str) (sp : Sp) (gV : List V → List V) : Prop :=
  ∃ f fd ps g, mg x = some (.ref f) ∧ PySem.W.keepIn K (.ref f) = true ∧ FnOk P w K mg base (L2.CX P w) k f fd ps sp ∧ KBn K fd ps 0 ks g (fun _ zs => gV zs)
theorem pe_kw0 {X : Cx} {k j : Nat} {x : Str} {ks : List Str} {sp : Sp} {gV : List V → List V} {E : XK} {p pos : Pos} {kws : List Keyword} {tk : TA} (c : CalK X.prog X.w X.K X.mg X.base k x ks sp gV) (hr : Room j X.A) (hk : k ≤ j) (hx : Passes (L2.CX X.prog X.w) X E) (hkw : PK X kws tk)
    (hg : Gl X x := by rfl) (hall : (backToKw pos (keywordEach kws X.env)).all (·.1.isSome) = true := by rfl) (hks : (backToKw pos (keywordEach kws X.env)).filterMap (·.1) = ks := by rfl) (hdb : (x == ("__debug__" : Str)) = false := by decide)
    (hpl : ((backTo pos (starEach [] X.env)).any (·.1) || (backToKw pos (keywordEach kws X.env)).any (·.1.isNone)) = false := by rfl) : PE X (.Call (.Name x p) [] kws pos) (fun σ H Q => tk σ H fun zs H1 => zs.length = ks.length ∧ sp (gV zs) H1 Q E) := by
  obtain ⟨f, fd, ps, g, h1, h2, F, b⟩ := c
  refine ⟨fun pins s σ H Q I h => wpAny_Call_Name_kw (ld_glob I hg h1 ?_ hdb)⟩
  refine PySem.W.callWith_KW0 (h₀ := X.base) I.ok.mod.kin h2 hall (thn (hkw.run pos pins s σ H _ I h) fun ws s2 ⟨zs, H2, I2, rz, l2, q2⟩ => ⟨I2.kIn, ?_⟩) hpl
  rw [hks]
  exact run_fnN F (hr.mono hk) b hx I2 .nil rz rfl l2 q2
end PB

/-! PX: isinstance of a caught exception that bears a dict; defaults; texts in lists. -/
namespace PB
open PySem PySem.Spec L2
open PyProof.Rows hiding St
section
open PySem.W PySem.Calls
variable {prog : Program} {w : World} {A : Around} {E : Value → Shared → Prop} {K : PySem.W.Frag} {x D : Addr} {ox od : Obj}
/-- e.__class__ of such an exception -/
theorem class_of_exc (T : L2.ExcC K D) {g0 : Array GenState} {d0 : Drawn} {t0 : Nat} {os0 : OsState} {hp : Heap} {Q : Option Value → Shared → Prop} (kin : K.In hp) (at_ : InstAt hp x ox D (some od)) (q : Q (some (.ref D)) ⟨hp, g0, d0, t0 + 1, os0⟩) :
    wpAny (model prog w) A (getAttr? (.ref x) "__class__") Q E ⟨hp, g0, d0, t0, os0⟩ := by
  have isC : (clsIn K D).isSome = true := by
    obtain ⟨cd, hc, _⟩ := any_some T.hd
    rw [hc]; rfl
  have fnd := looks_find (M := model prog w) kin at_ (findObj_data (od := od) isC T.ha T.hn T.ht)
  have typ := at_.type (M := model prog w)
  have gat := looks_findIn (M := model prog w) kin T.hg
  have non := looks_findIn (M := model prog w) kin T.hk
  have ins : Looks (model prog w) hp (isInstance (.ref x) (.type "BaseException")) true := typ.andThen (looks_subIn kin T.hs)
  have own : (Value.builtin "BaseException.__getattribute__" == Value.builtin "object.__getattribute__") = false := by decide +kernel
  unfold getAttr? getAttrBy? getAttrBy
  refine wpAny_bind (wpAny_mkText (wpAny_bind (wpAny_attempt (wpAny_holding (wpAny_bind (typ.at (wpAny_bind (gat.at ?_))))))))
  show wpAny _ _ (if (onTheHeap (Value.ref D) && (Value.builtin "BaseException.__getattribute__" == Value.builtin "object.__getattribute__")) = true then _ else _) _ _ _
  rw [own, Bool.and_false, if_neg Bool.false_ne_true]
  unfold getAttrByItsOwn hookBefore
  refine wpAny_bind ?_
  rw [if_pos (show onTheHeap (Value.ref D) = true from rfl)]
  refine non.at (wpAny_bind (wpAny_attempt (wpAny_holding ?_)))
  unfold callGetattribute
  rw [show (false && onTheHeap (Value.builtin "BaseException.__getattribute__")) = false from rfl, if_neg Bool.false_ne_true]
  unfold boundAndCalled
  rw [PySem.F.excAttr_ValueError.ga.bind (.ref x)]
  refine wpAny_bind (wpAny_pure ?_)
  show wpAny _ _ (call (.builtin "BaseException.__getattribute__") [.ref x, .str "__class__" t0]) _ _ _
  refine wpAny_call (codeAny_call_builtin PySem.F.excAttr_ValueError.ga.plain PySem.F.entry_bexc_ga ?_)
  refine @check_slot (model prog w) _ _ ⟨hp, g0, d0, t0 + 1, os0⟩ "BaseException.__getattribute__" "BaseException" "__getattribute__" (.ref x) [.str "__class__" t0] [] _ (by decide +kernel) (by decide +kernel) ins (PySem.F.args_bexc_ga (.ref x) (.str "__class__" t0)) ?_
  unfold Builtin.«object.__getattribute__»
  refine wpAny_bind (wpAny_of_eq (a := ((Value.ref x : Value), [Value.str "__class__" t0])) (by first | rfl | (simp only [slotArgs]; rfl)) (wpAny_bind (wpAny_pure (wpAny_bind (typ.at (wpAny_bind (fnd.at ?_)))))))
  show wpAny _ _ (holding [Value.builtin "object.__class__"] (call (.builtin "getset_descriptor.__get__") [.builtin "object.__class__", .ref x, .ref D]) >>= ret) _ _ _
  refine wpAny_bind (wpAny_holding (wpAny_call (class_get (s := ⟨hp, g0, d0, t0 + 1, os0⟩) (ox := ox) (od := some od) kin at_ T.hm (wpAny_pure ?_))))
  show wpAny _ _ (handedOut (.ref D)) _ _ _
  rw [handedOut_of (v := .ref D) rfl]
  first
    | exact wpAny_pure (wpAny_pure q)
    | exact wpAny_pure q
    | exact wpAny_pure (wpAny_bind (wpAny_pure (wpAny_pure q)))
theorem kit_exc (T : L2.ExcC K D) : KitX K (.ref x) (.ref D) (fun h => ∃ od, InstAt h x ox D (some od)) := by
  obtain ⟨cd, hc, _⟩ := any_some T.hd
  have look : ∃ c d sl, K.lookup D = some ⟨c, d, .cls cd, sl⟩ := by
    unfold clsIn at hc
    split at hc
    · rename_i c d cd' sl ho
      cases hc
      exact ⟨c, d, sl, ho⟩
    · cases hc
  obtain ⟨c, d, sl, ho⟩ := look
  refine ⟨fun _ _ _ ⟨_, I⟩ => I.type, fun _ _ X _ A' Q' E' s' k q => ?_, fun h tp dd its n sl' X htp => ?_, fun X ⟨od, I⟩ q => ?_⟩
  · unfold isType loadHead
    exact wpAny_bind (wpAny_loadPart (k _ _ (X _ _ ho)) (wpAny_pure q))
  · refine Bool.eq_false_iff.mpr fun z => ?_
    cases beq_iff_eq.mp z
    cases (X _ _ ho).symm.trans htp
  · exact class_of_exc T X I q
end
/-- isinstance(e, c), e the exception that the suite holds, its dict at d -/
def rIsX (K : PySem.W.Frag) (D a : Addr) (cls : Value) (d : Option Addr) : List V → Hp → VK → Prop := fun xs H Q => cls = .ref D ∧ ∃ (c : V) (cv : Value) (b : Bool) (dd : Addr) (fs : List (Str × V)), xs = [.ref a, c] ∧ (∀ u, RelV c u → u = cv) ∧ PySem.W.kitOne K (.ref D) cv = some b ∧ d = some dd ∧ H dd = some (.xd fs) ∧ Q (.bl b) H
theorem k_isX {X : Cx} {K : PySem.W.Frag} {a D : Addr} {cls : Value} {d : Option Addr} {oe : Obj} {pn : List (Addr × Obj)} (eK : X.K = K) (C : ExcC K D) (hz : Zc cls d oe) (hf : ∃ vs, oe.data = .fields vs) : CallR (X.suite a ((a, oe) :: pn)) (.builtin "isinstance") (rIsX K D a cls d) := by
  subst eK
  intro pins s σ H xs us Q I r h
  obtain ⟨rfl, c, cv, b, dd, fs, rfl, hcv, e, rfl, hd, q⟩ := h
  obtain ⟨u0, u1, rfl, r0, r1⟩ := vals2 r
  obtain rfl : u0 = Value.ref a := r0
  obtain rfl := hcv _ r1
  obtain ⟨hget, _⟩ := I.pin (a, oe) (List.mem_append.mpr (.inl List.mem_cons_self))
  obtain ⟨vs, hv⟩ := hf
  have hx : ObjOk X.prog X.w H s.heap dd (.xd fs) := I.hok dd _ hd
  obtain ⟨mA, hns, _⟩ := hx
  obtain ⟨od, ho, _⟩ := lookIn_ns hns
  have J : PySem.W.InstAt s.heap a oe D (some od) := ⟨hget, hz.1, by unfold PySem.W.notCls; rw [hv] <;> rfl, by rw [hz.2]; exact ho⟩
  exact PySem.W.kia_one (kit_exc C) I.kIn ⟨od, J⟩ e (fun z => nomatch z) fun tk => ⟨.bl b, H, I.kept (t' := tk) fun _ _ z => z, rfl, q⟩
def excCB (K : PySem.W.Frag) (D : Addr) : Bool := eqS (PySem.W.findIn K (.ref D) "__getattribute__") (some (some (.builtin "BaseException.__getattribute__"))) && (eqS (PySem.W.findIn K (.ref D) "__getattr__") (some none) && (decide (PySem.W.subIn K (.ref D) (.type "BaseException") = some true) &&
  (PySem.W.hasDictIn K D && (eqS (PySem.W.findIn K (.ref D) "__class__") (some (some (.builtin "object.__class__"))) && (eqS (PySem.W.specialIn K (.builtin "object.__class__") "__get__") (some (some (.builtin "getset_descriptor.__get__"))) &&
  (decide (PySem.W.takesIn K (.builtin "object.__class__") = some true) && decide (PySem.W.mroIn K D (.type "object") = some true)))))))
theorem excCB_ok {K : PySem.W.Frag} {D : Addr} (h : excCB K D = true) : ExcC K D := by
  unfold excCB at h
  simp only [Bool.and_eq_true, eqS, decide_eq_true_eq] at h
  obtain ⟨h1, h2, h3, h4, h5, h6, h7, h8⟩ := h
  exact ⟨h1, h2, h3, h4, h5, h6, h7, h8⟩
/-! ### defs with defaults -/
def CalD (P : Program) (w : World) (K : PySem.W.Frag) (mg : Str → Option Value) (base : Heap) (k : Nat) (x : Str) (ps : List Str) (dvs : List V) (sp : Sp) : Prop :=
  ∃ f fd ds, mg x = some (.ref f) ∧ PySem.W.keepIn K (.ref f) = true ∧ FnOk P w K mg base (L2.CX P w) k f fd ps sp ∧ Binds K fd ps ds ∧ Vals dvs ds
theorem pe_fD {X : Cx} {k j : Nat} {x : Str} {ps : List Str} {dvs : List V} {sp : Sp} {E : XK} {p pos : Pos} {e : Expr} {es : List Expr} {t : TA} (c : CalD X.prog X.w X.K X.mg X.base k x ps dvs sp) (hr : Room j X.A) (hk : k ≤ j) (hx : Passes (L2.CX X.prog X.w) X E) (ha : PA X (e :: es) t)
    (hg : Gl X x := by rfl) (hdb : (x == ("__debug__" : Str)) = false := by decide) (he : starEach (e :: es) X.env = (false, eval e X.env) :: starEach es X.env := by rfl) (hpl : (backTo pos (starEach es X.env)).any (·.1) = false := by rfl) :
    PE X (.Call (.Name x p) (e :: es) [] pos) (tCall sp dvs E t) := by
  obtain ⟨f, fd, ds, h1, h2, F, b, v⟩ := c
  exact pe_call F (hr.mono hk) hg h1 h2 b v hx ha hdb he hpl
theorem r_callD {sp : Sp} {dvs : List V} {E : XK} {tr : TA} {σ : St} {H : Hp} {Q : VK} (h : tr σ H fun vs H1 => sp (vs ++ dvs) H1 Q E) : tCall sp dvs E tr σ H Q := h
section
variable {P : Program} {w : World} {fa : List He.Fa} {fn : List He.DefD} {K : PySem.W.Frag} {mg : Str → Option Value} {base : Heap}
/-- a def whose keyword-only parameters have defaults, these not written -/
theorem Ct.calD (C : Ct fa fn K mg base) (i j n : Nat) {x : Str} {a : Arguments} {b : List Stmt} {sc : Scope} {kw : List (Str × He.Dv)} (hd : fn[i]? = some ⟨(x, none), x, x, a, b, sc, [], kw⟩) (hj : fa[j]? = some (.glo x)) {N ps : List Str} {k : Nat} {sp : Sp} (S : FnScope N ps sc)
    (hk : kw ≠ []) (hn : n + kw.length = ps.length)
    (hb : ∀ (D : Addr) (doc pm : Value) (an : Option Addr) (cdv ct : Value) (us ks : List Value), us.length = n → ks.length = kw.length → KwChain D ((kw.map (·.1)).zip ks) (bindArgs (PySem.W.fnOf x x a b sc .none (.ref D) doc pm an cdv ct) ⟨us, []⟩) (ps.zip (us ++ ks)))
    (len : ∀ vs H Q E, sp vs H Q E → vs.length = ps.length)
    (hbody : ∀ (f : Addr) (cdv : Value) (A : Around) (outer : List Env) (s : Shared) (H : Hp) (vs : List V) (Q : VK) (E : XK), Room k (A.deeper (envOfC x sc s.heap.objs.size f cdv)) → sp vs H Q E →
      ∃ t, PSs (cxOf (L2.CX P w) P w K mg base N x sc f cdv A outer s H E) b t ∧ t { nx := fun _ H' => Q .non H', rt := Q } (start N vs) H) : CalD P w K mg base (k + 1) x ps (kw.map fun q => q.2.v K) sp := by
  obtain ⟨fd, F⟩ := C.says.def_ i hd
  have F' : FunD K x x a b sc [] (kw.map fun q => (q.1, q.2.v K)) (He.fAd K (x, none)) fd := F
  obtain ⟨ds, v, bb⟩ := FunD.binds0 (ps := ps) F' n (fun z => hk (List.map_eq_nil_iff.mp z)) (by rw [List.length_map]; exact hn) (fun D doc pm an cdv ct us ks h1 h2 => by
    rw [List.length_map] at h2
    have := hb D doc pm an cdv ct us ks h1 h2
    rw [List.map_map]
    exact this)
  rw [List.map_map] at v
  exact ⟨_, fd, ds, He.glo_ok C.kin C.glob (C.says.fact j hj), F.kp, FunD.ok F' S len fun cdv A outer s H vs Q E hr h => hbody _ cdv A outer s H vs Q E hr h, bb, v⟩
/-- a def without defaults, by keywords alone -/
theorem Ct.calK (C : Ct fa fn K mg base) (i j : Nat) {x : Str} {a : Arguments} {b : List Stmt} {sc : Scope} (hd : fn[i]? = some ⟨(x, none), x, x, a, b, sc, [], []⟩) (hj : fa[j]? = some (.glo x)) {N ps ks : List Str} {k : Nat} {sp : Sp} {g : List Value → List Value} {gV : List V → List V} (S : FnScope N ps sc)
    (hrel : ∀ (zs : List V) (ws : List Value), Vals zs ws → Vals (gV zs) (g ws))
    (hb : ∀ (kV doc pm : Value) (an : Option Addr) (cdv ct : Value) (ws : List Value), ws.length = ks.length → bindArgs (PySem.W.fnOf x x a b sc .none kV doc pm an cdv ct) ⟨[], ks.zip ws⟩ = pure (ps.zip (g ws)))
    (len : ∀ vs H Q E, sp vs H Q E → vs.length = ps.length)
    (hbody : ∀ (f : Addr) (cdv : Value) (A : Around) (outer : List Env) (s : Shared) (H : Hp) (vs : List V) (Q : VK) (E : XK), Room k (A.deeper (envOfC x sc s.heap.objs.size f cdv)) → sp vs H Q E →
      ∃ t, PSs (cxOf (L2.CX P w) P w K mg base N x sc f cdv A outer s H E) b t ∧ t { nx := fun _ H' => Q .non H', rt := Q } (start N vs) H) : CalK P w K mg base (k + 1) x ks sp gV := by
  obtain ⟨fd, F⟩ := C.says.def_ i hd
  obtain ⟨oc, od, dV, kV, doc, pm, an, cdv, ct, osl, rfl, lk, hcd, hD, hK⟩ := F.ex
  have dn : dV = .none := by
    rcases hD with ⟨_, e⟩ | ⟨e, _⟩
    · exact e
    · exact absurd rfl e
  subst dn
  refine ⟨_, _, ps, fun _ ws => g ws, He.glo_ok C.kin C.glob (C.says.fact j hj), F.kp, FunD.ok F S len fun cdv A outer s H vs Q E hr h => hbody _ cdv A outer s H vs Q E hr h, ⟨fun s us ws _ l1 l2 => ?_, fun _ r => hrel _ _ r⟩⟩
  obtain rfl := List.length_eq_zero_iff.mp l1
  exact .of_eq (hb kV doc pm an cdv ct ws l2)
end
/-! ### calls within a try -/
theorem pe_fS {X : Cx} {W : WX} {k j : Nat} {x : Str} {ps : List Str} {sp : Sp} {p pos : Pos} {e : Expr} {es : List Expr} {t : TA} (c : Cal X.prog X.w X.K X.mg X.base k x ps sp) (hr : Room j X.A) (hk : k ≤ j) (tk : Takes X W) (ha : PA X (e :: es) t)
    (hg : Gl X x := by rfl) (hdb : (x == ("__debug__" : Str)) = false := by decide) (he : starEach (e :: es) X.env = (false, eval e X.env) :: starEach es X.env := by rfl) (hpl : (backTo pos (starEach es X.env)).any (·.1) = false := by rfl) :
    PE X (.Call (.Name x p) (e :: es) [] pos) (tCallS sp (WE W) t) := by
  obtain ⟨f, fd, h1, h2, F, b⟩ := c
  exact pe_callS F (hr.mono hk) hg h1 h2 b (fun σ => passAt tk σ) ha hdb he hpl
theorem pe_kw0S {X : Cx} {W : WX} {k j : Nat} {x : Str} {ks : List Str} {sp : Sp} {gV : List V → List V} {p pos : Pos} {kws : List Keyword} {tk : TA} (c : CalK X.prog X.w X.K X.mg X.base k x ks sp gV) (hr : Room j X.A) (hk : k ≤ j) (tw : Takes X W) (hkw : PK X kws tk)
    (hg : Gl X x := by rfl) (hall : (backToKw pos (keywordEach kws X.env)).all (·.1.isSome) = true := by rfl) (hks : (backToKw pos (keywordEach kws X.env)).filterMap (·.1) = ks := by rfl) (hdb : (x == ("__debug__" : Str)) = false := by decide)
    (hpl : ((backTo pos (starEach [] X.env)).any (·.1) || (backToKw pos (keywordEach kws X.env)).any (·.1.isNone)) = false := by rfl) : PE X (.Call (.Name x p) [] kws pos) (fun σ H Q => tk σ H fun zs H1 => zs.length = ks.length ∧ sp (gV zs) H1 Q (WE W σ)) := by
  obtain ⟨f, fd, ps, g, h1, h2, F, b⟩ := c
  refine ⟨fun pins s σ H Q I h => wpAny_Call_Name_kw (ld_glob I hg h1 ?_ hdb)⟩
  refine PySem.W.callWith_KW0 (h₀ := X.base) I.ok.mod.kin h2 hall (thn (hkw.run pos pins s σ H _ I h) fun ws s2 ⟨zs, H2, I2, rz, l2, q2⟩ => ⟨I2.kIn, ?_⟩) hpl
  rw [hks]
  have r2 := b.rel (vs := []) (us := []) .nil rz
  refine wpAny_call (codeAny_mono (F.run X.A X.stack s2 H2 ⟨[], ks.zip ws⟩ (g [] ws) (gV zs) Q (WE W σ) (hr.mono hk) I2.env0 (b.to s2 [] ws I2.kIn rfl (rz.length.symm.trans l2)) r2 q2) fun r s' hq => ?_)
  match r, hq with
  | .error er, hq => exact passAt tw σ pins H2 s2 er s' I2 hq
  | .ok (.ret u), hq => exact I2.after hq
  | .ok .next, hq => exact hq.elim
  | .ok .brk, hq => exact hq.elim
  | .ok .cont, hq => exact hq.elim
def tKw0S (n : Nat) (sp : Sp) (gV : List V → List V) (W : WX) (tk : TA) : TE := fun σ H Q => tk σ H fun zs H1 => zs.length = n ∧ sp (gV zs) H1 Q (WE W σ)
theorem r_callS {sp : Sp} {E : St → XK} {t : TA} {σ : St} {H : Hp} {Q : VK} (h : t σ H fun vs H1 => sp vs H1 Q (E σ)) : tCallS sp E t σ H Q := h
/-- a list of texts and a list of texts -/
theorem dp_S {K : PySem.W.Frag} {H : Hp} : ∀ xs : List Str, DpAll K H (xs.map V.str) (xs.map PyData.str)
  | [] => .nil
  | x :: xs => .cons (.str x) (dp_S xs)
theorem eqv_S : ∀ xs ys : List Str, PyData.eqvAll (xs.map PyData.str) (ys.map PyData.str) = decide (xs = ys)
  | [], [] => by simp only [List.map_nil, PyData.eqvAll, decide_true]
  | [], _ :: _ => by simp only [List.map_nil, List.map_cons, PyData.eqvAll]; rfl
  | _ :: _, [] => by simp only [List.map_nil, List.map_cons, PyData.eqvAll]; rfl
  | x :: xs, y :: ys => by
    have := eqv_S xs ys
    simp only [List.map_cons, PyData.eqvAll, PyData.eqv, this]
    by_cases h1 : x = y <;> by_cases h2 : xs = ys <;> simp [h1, h2]
theorem r_eqSS {K : PySem.W.Frag} {H : Hp} {a b : Addr} {xs ys : List Str} {Q : VK} (h1 : SqL K H a (xs.map V.str)) (h2 : SqL K H b (ys.map V.str)) (s1 : SeqAt.shaped (.list (xs.map .str)) = true) (s2 : SeqAt.shaped (.list (ys.map .str)) = true) (q : Q (.bl (decide (xs = ys))) H) : rEqA K (.ref a) (.ref b) H Q :=
  .inr ⟨_, _, .lst h1 (dp_S xs), .lst h2 (dp_S ys), s1, s2, by simp only [PyData.eqv, eqv_S]; exact q⟩
end PB

/-! PJ: texts compared; a search for the first. -/
namespace PB
open PySem PySem.Spec L2
open PyProof.Rows hiding St
section
variable {K : PySem.W.Frag} {H : Hp} {Q : VK} {x y : Str}
theorem dec_str : decide (V.str x = V.str y) = decide (x = y) := by
  rw [Bool.eq_iff_iff]
  simp
theorem r_eqZ (q : Q (.bl (decide (x = y))) H) : rEqA K (.str x) (.str y) H Q := .inl ⟨rfl, by rw [dec_str]; exact q⟩
theorem r_neZ (q : Q (.bl (!decide (x = y))) H) : rNeA K (.str x) (.str y) H Q := .inl ⟨rfl, by rw [dec_str]; exact q⟩
/-- is in a list or a tuple of flat things -/
theorem r_inF {v : V} {a : Addr} {xs : List V} (h : SqT K H a xs) (f1 : flatV v = true) (f2 : xs.all flatV = true) (q : Q (.bl (inV v xs)) H) : rInA K v (.ref a) H Q := .inl ⟨a, xs, rfl, .inr h, f1, f2, q⟩
theorem r_inFL {v : V} {a : Addr} {xs : List V} (h : SqL K H a xs) (f1 : flatV v = true) (f2 : xs.all flatV = true) (q : Q (.bl (inV v xs)) H) : rInA K v (.ref a) H Q := .inl ⟨a, xs, rfl, .inl h, f1, f2, q⟩
end
/-- the first of n that is found -/
def srch {α : Type} (f : Nat → Option α) : Nat → Option α
  | 0 => none
  | n + 1 => match srch f n with
    | some r => some r
    | none => f n
theorem srch_none {α : Type} {f : Nat → Option α} {n : Nat} (h : srch f n = none) (e : f n = none) : srch f (n + 1) = none := by
  show (match srch f n with | some r => some r | none => f n) = none
  rw [h]; exact e
theorem srch_more {α : Type} {f : Nat → Option α} {n : Nat} {r : α} (h : srch f n = some r) : ∀ m, n ≤ m → srch f m = some r
  | 0, hm => by
    obtain rfl : n = 0 := by omega
    exact h
  | m + 1, hm => by
    by_cases c : n = m + 1
    · rw [← c]; exact h
    · show (match srch f m with | some r => some r | none => f m) = some r
      rw [srch_more h m (by omega)]
theorem srch_some {α : Type} {f : Nat → Option α} {n m : Nat} {r : α} (h : srch f n = none) (e : f n = some r) (hm : n < m) : srch f m = some r := by
  refine srch_more (n := n + 1) ?_ m hm
  show (match srch f n with | some r => some r | none => f n) = some r
  rw [h]; exact e
end PB
namespace PB
open PySem PySem.Spec L2
open PyProof.Rows hiding St
/-- a test that answers b -/
theorem r_ifA {tt : TT} {t u : TS} {D : Ends} {σ : St} {H : Hp} (b : Bool) (h : ∀ R : Bool → Hp → Prop, R b H → tt σ H R) (q : if b = true then t D σ H else u D σ H) : tIfS tt t u D σ H := h _ q
/-- heaps: all but d and the tables stands -/
def EN (d : Addr) (H H' : Hp) : Prop := ∀ b o, b ≠ d → H b = some o → (∀ ps, o ≠ .tbl ps) → H' b = some o
theorem EN.b {d : Addr} {H H' : Hp} (e : ExB d H H') : EN d H H' := fun b o n h _ => e b o n h
theorem EN.n {d : Addr} {H H' : Hp} (e : ExN H H') : EN d H H' := fun b o _ h t => e b o h t
theorem EN.e {d : Addr} {H H' : Hp} (e : Ex H H') : EN d H H' := fun b o _ h _ => e b o h
theorem EN.tr {d : Addr} {H1 H2 H3 : Hp} (a : EN d H1 H2) (b : EN d H2 H3) : EN d H1 H3 := fun x o n h t => b x o n (a x o n h t) t
theorem tabs_exb {T : List (Addr × Str)} {d : Addr} {xs : List V} {H H' : Hp} (e : ExB d H H') (hd : H d = some (.lst xs)) (t : LamX.Tabs T H) : LamX.Tabs T H' := fun p hp => by
  obtain ⟨ps, h1, h2, h3⟩ := t p hp
  refine ⟨ps, e _ _ (fun z => by rw [z, hd] at h1; cases h1) h1, h2, fun pos cv hc => ?_⟩
  obtain ⟨c, e1, e2⟩ := h3 pos cv hc
  exact ⟨c, e1, e _ _ (fun z => by rw [z, hd] at e2; cases e2) e2⟩
theorem Dice.tabs {T : List (Addr × Str)} {n : Nat} {d : Addr} {H H' : Hp} (h : Dice n H d) (e : ExB d H H') (t : LamX.Tabs T H) : LamX.Tabs T H' := by
  obtain ⟨x, y, z, h, _⟩ := h
  exact tabs_exb e h t
theorem sqL_en {K : PySem.W.Frag} {H H' : Hp} {a d : Addr} {xs : List V} {n : Nat} (e : EN d H H') (hn : a ≠ d) (h : SqL K H a xs) : SqL K H' a xs := by
  rcases h with (h | ⟨o, h⟩) | h
  · exact .inl (.inl (e _ _ hn h fun _ z => by cases z))
  · exact .inl (.inr ⟨o, e _ _ hn h fun _ z => by cases z⟩)
  · exact .inr h
/-- an int tuple's repr -/
theorem r_reprT {K : PySem.W.Frag} {H : Hp} {a : Addr} {ns : List Int} {Q : VK} (h : SqT K H a (ns.map V.int)) (s1 : (PyData.tuple (dI ns)).showable = true) (s2 : (PyData.tuple (dI ns)).hasDict = false) (s3 : (PyData.tuple (dI ns)).shown.length ≤ sizeLine) (s4 : (PyData.tuple (dI ns)).depth ≤ 60) (q : Q (.str (PyData.tuple (dI ns)).shown) H) : rRepr K [.ref a] H Q :=
  ⟨a, _, rfl, dp_t h, s1, s2, s3, s4, q⟩
theorem r_xf {a C : Addr} {cls : Value} {d : Option Addr} {f : Str} {te : TE} {σ : St} {H : Hp} {Q : VK} (h : te σ H fun x H1 => x = .ref a ∧ cls = .ref C ∧ ∃ (dd : Addr) (fs : List (Str × V)) (v : V), d = some dd ∧ H1 dd = some (.xd fs) ∧ fs.lookup f = some v ∧ Q v H1) : tXf a cls d C f te σ H Q := h
theorem sqL_fresh_en {K : PySem.W.Frag} {H H1 H' : Hp} {a d : Addr} {xs : List V} (f : H d = none) (e1 : Ex H H1) (e : EN d H1 H') (h : SqL K H a xs) : SqL K H' a xs := by
  have ne : ∀ {o : HO}, H a = some o → a ≠ d := fun h z => by rw [z, f] at h; cases h
  rcases h with (h | ⟨o, h⟩) | h
  · exact .inl (.inl (e _ _ (ne h) (e1 _ _ h) fun _ z => by cases z))
  · exact .inl (.inr ⟨o, e _ _ (ne h) (e1 _ _ h) fun _ z => by cases z⟩)
  · exact .inr h
end PB

/-! PY: zip whose tuples go to a name: the last one may still be there, or not. -/
namespace PB
open PySem PySem.Spec L2
open PyProof.Rows hiding St
abbrev ZipO (h : Heap) (z TI TO : Addr) (f0 f1 : Value) : Prop :=
  h.get? z = some { cls := .type "zip", dict := none, data := .fields #[f0, f1, .bool false, .ref TI, .ref TO], slots := #[] }
/-- what the zip knows of its last tuple -/
def Last (f0 f1 : Value) : Prop := f0 = .none ∨ ∃ (T : Nat) (f : Bool), f0 = rawInt T ∧ f1 = .bool f
def ZipG (h : Heap) (z TI TO : Addr) : Prop := ∃ f0 f1, ZipO h z TI TO f0 f1 ∧ Last f0 f1
section
variable {prog : Program} {w : World} {A : Around} {E : Value → Shared → Prop} {s : Shared} {z TI TO i1 i2 : Addr} {fp1 fp2 : List Addr} {n1 n2 i : Nat} {P1 P2 : Nat → Value → Prop} {St1 St2 : Nat → Heap → Prop} {a1 a2 f0 f1 : Value}
theorem lookAlive {a : Addr} {Q : Option Obj → Shared → Prop} (h : Q (s.heap.get? a) s) : wpAny (model prog w) A (loadIfAlive a) Q E s := fun _ _ _ => h
theorem zip_asks {Q : Bool → Shared → Prop} (hz : ZipO s.heap z TI TO f0 f1) (hl : Last f0 f1) (h : ∀ b h' f1', ZipO h' z TI TO f0 f1' → Last f0 f1' → Heap.SameBut z s.heap h' → Q b { s with heap := h' }) :
    wpAny (model prog w) A (Builtin.SmallTypes.ownedTupleIsFree (.ref z)) Q E s := by
  unfold Builtin.SmallTypes.ownedTupleIsFree
  rcases hl with rfl | ⟨T, f, rfl, rfl⟩
  · exact wpAny_bind (wpAny_field hz rfl (x := .none) rfl (wpAny_pure (h true s.heap f1 hz (.inl rfl) (Heap.SameBut.refl _ _))))
  · refine wpAny_bind (wpAny_field hz rfl (x := rawInt T) rfl ?_)
    show wpAny _ _ (loadIfAlive ((T : Int).toNat) >>= _) _ _ _
    refine wpAny_bind (lookAlive ?_)
    cases hT : s.heap.get? ((T : Int).toNat) with
    | none =>
      simp only [Option.isNone_none, if_true]
      exact wpAny_pure (h true s.heap _ hz (.inr ⟨T, f, rfl, rfl⟩) (Heap.SameBut.refl _ _))
    | some o =>
      simp only [Option.isNone_some, Bool.false_eq_true, if_false]
      refine wpAny_bind (wpAny_field hz rfl (x := .bool f) rfl ?_)
      cases f with
      | true =>
        rw [if_neg (show ¬ ((Value.bool true != Value.bool true) = true) from Bool.false_ne_true)]
        exact wpAny_pure (h false s.heap _ hz (.inr ⟨T, _, rfl, rfl⟩) (Heap.SameBut.refl _ _))
      | false =>
        rw [if_pos (show (Value.bool false != Value.bool true) = true from rfl)]
        exact wpAny_bind (wpAny_setField_rec hz (by simp) fun h₁ hz₁ hs₁ => wpAny_pure (h false h₁ _ hz₁ (.inr ⟨T, _, rfl, rfl⟩) hs₁))
theorem ZipG.of {h : Heap} (hz : ZipO h z TI TO f0 f1) (l : Last f0 f1) : ZipG h z TI TO := ⟨f0, f1, hz, l⟩
theorem updTup {T : Addr} {x : Value} {k : Nat} {Q : Unit → Shared → Prop} (hT : IsTupOf2 s.heap T a1 a2)
    (h : ∀ h', h'.get? T = some { cls := .type "tuple", data := .seq ((#[a1, a2] : Array Value).setIfInBounds k x) } → Heap.SameBut T s.heap h' → Q () { s with heap := h' }) :
    wpAny (model prog w) A (updateSeq T (·.setIfInBounds k x)) Q E s := updateSeq_IsTupOf2 hT h
/-- the next pair, whatever became of the last one -/
theorem zipG_item {Q : Value → Shared → Prop} (S : ZipSep2 z TI TO i1 i2 fp1 fp2) (D1 : Draws prog w A i1 fp1 n1 P1 St1) (D2 : Draws prog w A i2 fp2 n2 P2 St2)
    (hz : ZipG s.heap z TI TO) (hTI : IsTupOf2 s.heap TI (.ref i1) (.ref i2)) (hTO : ∃ a1 a2, IsTupOf2 s.heap TO a1 a2) (st1 : St1 i s.heap) (st2 : St2 i s.heap) (hlt1 : i < n1) (hlt2 : i < n2)
    (hQ : ∀ x1 x2 h' tk, P1 i x1 → P2 i x2 → ZipG h' z TI TO → (∃ a1 a2, IsTupOf2 h' TO a1 a2) → St1 (i + 1) h' → St2 (i + 1) h' → IsTupOf2 h' s.heap.objs.size x1 x2 →
      (∀ c o, c ≠ z → c ≠ TO → c ≠ i1 → c ≠ i2 → s.heap.get? c = some o → h'.get? c = some o) → Q (.ref s.heap.objs.size) { s with heap := h', toks := tk }) :
    wpAny (model prog w) A (Builtin.«zip.__next__» ⟨[.ref z], []⟩) (fun fin s' => ∃ v, fin = .done (.ret v) ∧ Q v s') E s := by
  obtain ⟨f0, f1, hz, hl⟩ := hz
  obtain ⟨a1, a2, hTO⟩ := hTO
  obtain ⟨hp, g, d, tk0, os⟩ := s
  show wpAny _ _ (field (.ref z) 2 >>= _) _ _ _
  refine wpAny_bind (wpAny_field hz rfl (x := .bool false) rfl ?_)
  show wpAny _ _ (field (.ref z) 3 >>= _) _ _ _
  refine wpAny_bind (wpAny_field hz rfl (x := .ref TI) rfl ?_)
  refine wpAny_bind (wpAny_seqItems hTI rfl ?_)
  show wpAny _ _ (Builtin.SmallTypes.ownedTupleIsFree (.ref z) >>= _) _ _ _
  refine wpAny_bind (zip_asks hz hl fun b q f1' hzq hlq hsq => ?_)
  replace hsq : Heap.SameBut z hp q := hsq
  have hTOq : IsTupOf2 q TO a1 a2 := hsq.extBut _ _ S.TOz hTO
  have s1q : St1 i q := D1.over st1 hsq S.zf1
  have s2q : St2 i q := D2.over st2 hsq S.zf2
  have szq : q.objs.size = hp.objs.size := hsq.1
  cases b with
  | true =>
    simp only [if_true]
    refine wpAny_bind (wpAny_rule ?_)
    refine wpAny_bind (wpAny_field (s := ⟨q, g, d, tk0, os⟩) hzq rfl (x := .ref TO) rfl ?_)
    refine wpAny_bind (wpAny_setField_rec (s := ⟨q, g, d, tk0, os⟩) hzq (by simp) fun g0 hz0 hs0 => ?_)
    replace hz0 : ZipO g0 z TI TO .ellipsis f1' := hz0
    replace hs0 : Heap.SameBut z q g0 := hs0
    refine wpAny_bind ?_
    simp only [List.zipIdx_cons, List.zipIdx_nil, List.forIn_cons, List.forIn_nil]
    refine wpAny_bind (wpAny_bind (wpAny_onRaise ?_))
    show wpAny _ _ (Builtin.SmallTypes.nextOf (.ref i1) >>= _) _ _ ⟨g0, g, d, tk0, os⟩
    refine wpAny_bind (D1.item i _ _ _ hlt1 (D1.over s1q hs0 S.zf1) fun x1 p1 tk1 hx1 sn1 hp1 => wpAny_pure ?_)
    replace hp1 : Heap.SameBut i1 g0 p1 := hp1
    have hU1 : IsTupOf2 p1 TO a1 a2 := hp1.extBut _ _ S.Ti1 (hs0.extBut _ _ S.TOz hTOq)
    refine wpAny_bind (wpAny_seqItems (s := ⟨p1, g, d, tk1, os⟩) hU1 rfl ?_)
    refine wpAny_bind (updTup (s := ⟨p1, g, d, tk1, os⟩) hU1 fun g1 hT1 hs1 => ?_)
    replace hT1 : IsTupOf2 g1 TO x1 a2 := hT1
    replace hs1 : Heap.SameBut TO p1 g1 := hs1
    refine wpAny_bind (wpAny_letGo (wpAny_pure ?_))
    refine wpAny_bind (wpAny_bind (wpAny_onRaise ?_))
    show wpAny _ _ (Builtin.SmallTypes.nextOf (.ref i2) >>= _) _ _ ⟨g1, g, d, tk1, os⟩
    refine wpAny_bind (D2.item i _ _ _ hlt2 (D2.over (D2.over (D2.over s2q hs0 S.zf2) hp1 S.sep1_2) hs1 S.Tf2) fun x2 p2 tk2 hx2 sn2 hp2 => wpAny_pure ?_)
    replace hp2 : Heap.SameBut i2 g1 p2 := hp2
    have hU2 : IsTupOf2 p2 TO x1 a2 := hp2.extBut _ _ S.Ti2 hT1
    refine wpAny_bind (wpAny_seqItems (s := ⟨p2, g, d, tk2, os⟩) hU2 rfl ?_)
    refine wpAny_bind (updTup (s := ⟨p2, g, d, tk2, os⟩) hU2 fun g2 hT2 hs2 => ?_)
    replace hT2 : IsTupOf2 g2 TO x1 x2 := hT2
    replace hs2 : Heap.SameBut TO p2 g2 := hs2
    refine wpAny_bind (wpAny_letGo (wpAny_pure (wpAny_pure ?_)))
    refine wpAny_bind (wpAny_seqItems (s := ⟨g2, g, d, tk2, os⟩) hT2 rfl ?_)
    refine wpAny_bind (wpAny_newTuple ?_)
    have hsz : g2.objs.size = hp.objs.size := by rw [hs2.1, hp2.1, hs1.1, hp1.1, hs0.1, szq]
    have hzz : ZipO g2 z TI TO .ellipsis f1' := (hs2.extBut _ _ S.TOz.symm (hp2.extBut _ _ S.zi2 (hs1.extBut _ _ S.TOz.symm (hp1.extBut _ _ S.zi1 hz0))))
    have hkk : ∀ c o, c ≠ z → c ≠ TO → c ≠ i1 → c ≠ i2 → hp.get? c = some o → g2.get? c = some o := fun c o cz cT c1 c2 e =>
      (hs2.extBut _ _ cT (hp2.extBut _ _ c2 (hs1.extBut _ _ cT (hp1.extBut _ _ c1 (hs0.extBut _ _ cz (hsq.extBut _ _ cz e))))))
    have hj1 : St1 (i + 1) g2 := (D1.over (D1.over (D1.over sn1 hs1 S.Tf1) hp2 S.sep2_1) hs2 S.Tf1)
    have hj2 : St2 (i + 1) g2 := (D2.over sn2 hs2 S.Tf2)
    have hzlt : z < g2.objs.size := Heap.lt_size hzz
    show wpAny _ _ (Builtin.SmallTypes.ownedTupleHandOut (.ref z) (.ref g2.objs.size) >>= _) _ _ ⟨g2.push { cls := .type "tuple", data := .seq #[x1, x2] }, g, d, tk2, os⟩
    refine wpAny_bind ?_
    unfold Builtin.SmallTypes.ownedTupleHandOut
    have hz₆ : ZipO (g2.push { cls := .type "tuple", data := .seq #[x1, x2] }) z TI TO .ellipsis f1' := Heap.get?_push_of_some _ hzz
    refine wpAny_bind (wpAny_setField_rec hz₆ (by simp) fun h₇ hz₇ hs₇ => ?_)
    replace hz₇ : ZipO h₇ z TI TO (rawInt g2.objs.size) f1' := hz₇
    refine wpAny_setField_rec hz₇ (by simp) fun h₈ hz₈ hs₈ => ?_
    replace hz₈ : ZipO h₈ z TI TO (rawInt g2.objs.size) (.bool false) := hz₈
    replace hs₇ : Heap.SameBut z (g2.push { cls := .type "tuple", data := .seq #[x1, x2] }) h₇ := hs₇
    replace hs₈ : Heap.SameBut z h₇ h₈ := hs₈
    have up : ∀ c o, c ≠ z → g2.get? c = some o → h₈.get? c = some o := fun c o c1 e => hs₈.extBut _ _ c1 (hs₇.extBut _ _ c1 (Heap.get?_push_of_some _ e))
    have hT₈ : IsTupOf2 h₈ g2.objs.size x1 x2 := hs₈.extBut _ _ (Nat.ne_of_gt hzlt) (hs₇.extBut _ _ (Nat.ne_of_gt hzlt) (Heap.get?_push_size _ rfl))
    refine wpAny_pure ⟨_, rfl, ?_⟩
    show Q (.ref g2.objs.size) ⟨h₈, g, d, tk2, os⟩
    rw [hsz] at hT₈ ⊢
    exact hQ x1 x2 h₈ tk2 hx1 hx2 (.of hz₈ (.inr ⟨_, _, rfl, rfl⟩)) ⟨_, _, up _ _ S.TOz hT2⟩ (D1.frame _ _ _ hj1 fun b hb o e => up b o (fun q => S.zf1 (q ▸ hb)) e) (D2.frame _ _ _ hj2 fun b hb o e => up b o (fun q => S.zf2 (q ▸ hb)) e) hT₈ fun c o cz cT c1 c2 e => up c o cz (hkk c o cz cT c1 c2 e)
  | false =>
    simp only [Bool.false_eq_true, if_false]
    refine wpAny_bind ?_
    rw [← Array.forIn_toList]
    simp only [List.forIn_cons, List.forIn_nil]
    refine wpAny_bind (wpAny_bind (wpAny_holding ?_))
    show wpAny _ _ (Builtin.SmallTypes.nextOf (.ref i1) >>= _) _ _ ⟨q, g, d, tk0, os⟩
    refine wpAny_bind (D1.item i _ _ _ hlt1 s1q fun x1 p1 tk1 hx1 sn1 hp1 => wpAny_pure ?_)
    replace hp1 : Heap.SameBut i1 q p1 := hp1
    refine wpAny_pure ?_
    refine wpAny_bind (wpAny_bind (wpAny_holding ?_))
    show wpAny _ _ (Builtin.SmallTypes.nextOf (.ref i2) >>= _) _ _ ⟨p1, g, d, tk1, os⟩
    refine wpAny_bind (D2.item i _ _ _ hlt2 (D2.over s2q hp1 S.sep1_2) fun x2 p2 tk2 hx2 sn2 hp2 => wpAny_pure ?_)
    replace hp2 : Heap.SameBut i2 p1 p2 := hp2
    refine wpAny_pure (wpAny_pure ?_)
    show wpAny _ _ (newTuple [x1, x2] >>= _) _ _ ⟨p2, g, d, tk2, os⟩
    refine wpAny_bind (wpAny_newTuple ?_)
    have hsz : p2.objs.size = hp.objs.size := by rw [hp2.1, hp1.1, szq]
    have hzz : ZipO p2 z TI TO f0 f1' := hp2.extBut _ _ S.zi2 (hp1.extBut _ _ S.zi1 hzq)
    have hTT : IsTupOf2 p2 TO a1 a2 := hp2.extBut _ _ S.Ti2 (hp1.extBut _ _ S.Ti1 hTOq)
    have hkk : ∀ c o, c ≠ z → c ≠ TO → c ≠ i1 → c ≠ i2 → hp.get? c = some o → p2.get? c = some o := fun c o cz cT c1 c2 e =>
      hp2.extBut _ _ c2 (hp1.extBut _ _ c1 (hsq.extBut _ _ cz e))
    have hj1 : St1 (i + 1) p2 := D1.over sn1 hp2 S.sep2_1
    have up : ∀ c o, p2.get? c = some o → (p2.push { cls := .type "tuple", data := .seq #[x1, x2] }).get? c = some o := fun c o e => Heap.get?_push_of_some _ e
    have hT₈ : IsTupOf2 (p2.push { cls := .type "tuple", data := .seq #[x1, x2] }) p2.objs.size x1 x2 := Heap.get?_push_size _ rfl
    refine wpAny_pure ⟨_, rfl, ?_⟩
    show Q (.ref p2.objs.size) ⟨p2.push { cls := .type "tuple", data := .seq #[x1, x2] }, g, d, tk2, os⟩
    rw [hsz] at hT₈ ⊢
    exact hQ x1 x2 _ tk2 hx1 hx2 (.of (up _ _ hzz) hlq) ⟨_, _, up _ _ hTT⟩ (D1.frame _ _ _ hj1 fun b hb o e => up b o e) (D2.frame _ _ _ sn2 fun b hb o e => up b o e) hT₈ fun c o cz cT c1 c2 e => up c o (hkk c o cz cT c1 c2 e)
theorem zipG_end {Q : Fin → Shared → Prop} (S : ZipSep2 z TI TO i1 i2 fp1 fp2) (D1 : Draws prog w A i1 fp1 n1 P1 St1) (D2 : Draws prog w A i2 fp2 n2 P2 St2)
    (hz : ZipG s.heap z TI TO) (hTI : IsTupOf2 s.heap TI (.ref i1) (.ref i2)) (hTO : ∃ a1 a2, IsTupOf2 s.heap TO a1 a2) (st1 : St1 i s.heap) (st2 : St2 i s.heap) (hle1 : i ≤ n1) (hle2 : i ≤ n2) (hend : i = n1 ∨ i = n2)
    (hE : ∀ h' tk e, (∀ c o, c ≠ z → c ≠ TO → c ≠ i1 → c ≠ i2 → s.heap.get? c = some o → h'.get? c = some o) → (∃ o, h'.get? e = some o ∧ o.cls = .type "StopIteration") → E (.ref e) { s with heap := h', toks := tk }) :
    wpAny (model prog w) A (Builtin.«zip.__next__» ⟨[.ref z], []⟩) Q E s := by
  obtain ⟨f0, f1, hz, hl⟩ := hz
  obtain ⟨a1, a2, hTO⟩ := hTO
  obtain ⟨hp, g, d, tk0, os⟩ := s
  show wpAny _ _ (field (.ref z) 2 >>= _) _ _ _
  refine wpAny_bind (wpAny_field hz rfl (x := .bool false) rfl ?_)
  show wpAny _ _ (field (.ref z) 3 >>= _) _ _ _
  refine wpAny_bind (wpAny_field hz rfl (x := .ref TI) rfl ?_)
  refine wpAny_bind (wpAny_seqItems hTI rfl ?_)
  show wpAny _ _ (Builtin.SmallTypes.ownedTupleIsFree (.ref z) >>= _) _ _ _
  refine wpAny_bind (zip_asks hz hl fun b q f1' hzq hlq hsq => ?_)
  replace hsq : Heap.SameBut z hp q := hsq
  have hTOq : IsTupOf2 q TO a1 a2 := hsq.extBut _ _ S.TOz hTO
  have s1q : St1 i q := D1.over st1 hsq S.zf1
  have s2q : St2 i q := D2.over st2 hsq S.zf2
  cases b with
  | true =>
    simp only [if_true]
    refine wpAny_bind (wpAny_rule ?_)
    refine wpAny_bind (wpAny_field (s := ⟨q, g, d, tk0, os⟩) hzq rfl (x := .ref TO) rfl ?_)
    refine wpAny_bind (wpAny_setField_rec (s := ⟨q, g, d, tk0, os⟩) hzq (by simp) fun g0 hz0 hs0 => ?_)
    replace hz0 : ZipO g0 z TI TO .ellipsis f1' := hz0
    replace hs0 : Heap.SameBut z q g0 := hs0
    refine wpAny_bind ?_
    simp only [List.zipIdx_cons, List.zipIdx_nil, List.forIn_cons, List.forIn_nil]
    refine wpAny_bind (wpAny_bind (wpAny_onRaise ?_))
    show wpAny _ _ (Builtin.SmallTypes.nextOf (.ref i1) >>= _) _ _ ⟨g0, g, d, tk0, os⟩
    by_cases hlt1 : i < n1
    · refine wpAny_bind (D1.item i _ _ _ hlt1 (D1.over s1q hs0 S.zf1) fun x1 p1 tk1 hx1 sn1 hp1 => wpAny_pure ?_)
      replace hp1 : Heap.SameBut i1 g0 p1 := hp1
      have hU1 : IsTupOf2 p1 TO a1 a2 := hp1.extBut _ _ S.Ti1 (hs0.extBut _ _ S.TOz hTOq)
      refine wpAny_bind (wpAny_seqItems (s := ⟨p1, g, d, tk1, os⟩) hU1 rfl ?_)
      refine wpAny_bind (updTup (s := ⟨p1, g, d, tk1, os⟩) hU1 fun g1 hT1 hs1 => ?_)
      replace hs1 : Heap.SameBut TO p1 g1 := hs1
      refine wpAny_bind (wpAny_letGo (wpAny_pure ?_))
      have hi2 : i = n2 := by omega
      refine wpAny_bind (wpAny_bind (wpAny_onRaise ?_))
      show wpAny _ _ (Builtin.SmallTypes.nextOf (.ref i2) >>= _) _ _ ⟨g1, g, d, tk1, os⟩
      refine wpAny_bind (D2.done ⟨g1, g, d, tk1, os⟩ _ _ (by rw [← hi2]; exact (D2.over (D2.over (D2.over s2q hs0 S.zf2) hp1 S.sep1_2) hs1 S.Tf2)) fun r e hq he => ?_)
      replace hq : Heap.ExtBut i2 g1 r := hq
      obtain ⟨oe, hoe, hce⟩ := he
      replace hoe : r.get? e = some oe := hoe
      have hzr : ZipO r z TI TO .ellipsis f1' := hq _ _ S.zi2 (hs1.extBut _ _ S.TOz.symm (hp1.extBut _ _ S.zi1 hz0))
      have hez : e ≠ z := fun x => by subst x; rw [hzr] at hoe; cases hoe; simp at hce
      refine wpAny_setField_rec (s := ⟨r, g, d, tk1, os⟩) hzr (by simp) fun q' _ hq' => ?_
      replace hq' : Heap.SameBut z r q' := hq'
      exact hE q' tk1 e (fun c o cz cT c1 c2 x => hq'.extBut _ _ cz (hq _ _ c2 (hs1.extBut _ _ cT (hp1.extBut _ _ c1 (hs0.extBut _ _ cz (hsq.extBut _ _ cz x)))))) ⟨oe, hq'.extBut _ _ hez hoe, hce⟩
    · have hi1 : i = n1 := by omega
      refine wpAny_bind (D1.done ⟨g0, g, d, tk0, os⟩ _ _ (by rw [← hi1]; exact (D1.over s1q hs0 S.zf1)) fun r e hq he => ?_)
      replace hq : Heap.ExtBut i1 g0 r := hq
      obtain ⟨oe, hoe, hce⟩ := he
      replace hoe : r.get? e = some oe := hoe
      have hzr : ZipO r z TI TO .ellipsis f1' := hq _ _ S.zi1 hz0
      have hez : e ≠ z := fun x => by subst x; rw [hzr] at hoe; cases hoe; simp at hce
      refine wpAny_setField_rec (s := ⟨r, g, d, tk0, os⟩) hzr (by simp) fun q' _ hq' => ?_
      replace hq' : Heap.SameBut z r q' := hq'
      exact hE q' tk0 e (fun c o cz cT c1 c2 x => hq'.extBut _ _ cz (hq _ _ c1 (hs0.extBut _ _ cz (hsq.extBut _ _ cz x)))) ⟨oe, hq'.extBut _ _ hez hoe, hce⟩
  | false =>
    simp only [Bool.false_eq_true, if_false]
    refine wpAny_bind ?_
    rw [← Array.forIn_toList]
    simp only [List.forIn_cons, List.forIn_nil]
    refine wpAny_bind (wpAny_bind (wpAny_holding ?_))
    show wpAny _ _ (Builtin.SmallTypes.nextOf (.ref i1) >>= _) _ _ ⟨q, g, d, tk0, os⟩
    by_cases hlt1 : i < n1
    · refine wpAny_bind (D1.item i _ _ _ hlt1 s1q fun x1 p1 tk1 hx1 sn1 hp1 => wpAny_pure ?_)
      replace hp1 : Heap.SameBut i1 q p1 := hp1
      refine wpAny_pure ?_
      have hi2 : i = n2 := by omega
      refine wpAny_bind (wpAny_bind (wpAny_holding ?_))
      show wpAny _ _ (Builtin.SmallTypes.nextOf (.ref i2) >>= _) _ _ ⟨p1, g, d, tk1, os⟩
      refine wpAny_bind (D2.done ⟨p1, g, d, tk1, os⟩ _ _ (by rw [← hi2]; exact D2.over s2q hp1 S.sep1_2) fun r e hq he => ?_)
      replace hq : Heap.ExtBut i2 p1 r := hq
      exact hE r tk1 e (fun c o cz cT c1 c2 x => hq _ _ c2 (hp1.extBut _ _ c1 (hsq.extBut _ _ cz x))) he
    · have hi1 : i = n1 := by omega
      refine wpAny_bind (D1.done ⟨q, g, d, tk0, os⟩ _ _ (by rw [← hi1]; exact s1q) fun r e hq he => ?_)
      replace hq : Heap.ExtBut i1 q r := hq
      exact hE r tk0 e (fun c o cz cT c1 c2 x => hq _ _ c1 (hsq.extBut _ _ cz x)) he
theorem zipG_next_item {Q : Option Value → Shared → Prop} (S : ZipSep2 z TI TO i1 i2 fp1 fp2) (D1 : Draws prog w A.in1 i1 fp1 n1 P1 St1) (D2 : Draws prog w A.in1 i2 fp2 n2 P2 St2)
    (hz : ZipG s.heap z TI TO) (hTI : IsTupOf2 s.heap TI (.ref i1) (.ref i2)) (hTO : ∃ a1 a2, IsTupOf2 s.heap TO a1 a2) (st1 : St1 i s.heap) (st2 : St2 i s.heap) (hlt1 : i < n1) (hlt2 : i < n2)
    (hQ : ∀ x1 x2 h' tk, P1 i x1 → P2 i x2 → ZipG h' z TI TO → (∃ a1 a2, IsTupOf2 h' TO a1 a2) → St1 (i + 1) h' → St2 (i + 1) h' → IsTupOf2 h' s.heap.objs.size x1 x2 →
      (∀ c o, c ≠ z → c ≠ TO → c ≠ i1 → c ≠ i2 → s.heap.get? c = some o → h'.get? c = some o) → Q (some (.ref s.heap.objs.size)) { s with heap := h', toks := tk }) :
    wpAny (model prog w) A (pyNext (.ref z)) Q E s := by
  have hT : s.TypeIs (.ref z) "zip" := by obtain ⟨_, _, hz, _⟩ := hz; exact ⟨_, hz, rfl⟩
  unfold pyNext
  exact wpAny_bind (wpAny_attempt (wpAny_callSpecial?_slot (name := Str.ofString "__next__") hT F.slot_zip_next
    (wpAny_call_entry F.slot_zip_next hT F.entry_zip_next
      (zipG_item S D1 D2 hz hTI hTO st1 st2 hlt1 hlt2 fun x1 x2 h' tk y1 y2 b1 b2 d1 d2 b5 b7 => wpAny_pure (hQ x1 x2 h' tk y1 y2 b1 b2 d1 d2 b5 b7)) (F.args_zip_next_1 _))))
theorem zipG_next_end {Q : Option Value → Shared → Prop} (S : ZipSep2 z TI TO i1 i2 fp1 fp2) (D1 : Draws prog w A.in1 i1 fp1 n1 P1 St1) (D2 : Draws prog w A.in1 i2 fp2 n2 P2 St2)
    (hz : ZipG s.heap z TI TO) (hTI : IsTupOf2 s.heap TI (.ref i1) (.ref i2)) (hTO : ∃ a1 a2, IsTupOf2 s.heap TO a1 a2) (st1 : St1 i s.heap) (st2 : St2 i s.heap) (hle1 : i ≤ n1) (hle2 : i ≤ n2) (hend : i = n1 ∨ i = n2)
    (hQ : ∀ h' tk, (∀ c o, c ≠ z → c ≠ TO → c ≠ i1 → c ≠ i2 → s.heap.get? c = some o → h'.get? c = some o) → Q none { s with heap := h', toks := tk }) : wpAny (model prog w) A (pyNext (.ref z)) Q E s := by
  have hT : s.TypeIs (.ref z) "zip" := by obtain ⟨_, _, hz, _⟩ := hz; exact ⟨_, hz, rfl⟩
  unfold pyNext
  refine wpAny_bind (wpAny_attempt (wpAny_callSpecial?_slot (name := Str.ofString "__next__") hT F.slot_zip_next
    (wpAny_call_entry F.slot_zip_next hT F.entry_zip_next (zipG_end S D1 D2 hz hTI hTO st1 st2 hle1 hle2 hend fun h' tk e hk he => ?_) (F.args_zip_next_1 _))))
  obtain ⟨o, ho, hc⟩ := he
  refine wpAny_bind (wpAny_isInstance (T := "StopIteration") (b := true) ⟨o, ho, hc⟩ isSubtype_stop ?_)
  exact wpAny_pure (hQ _ _ hk)
end
/-- a target that does not unpack -/
def Whole (tg : Expr) : Prop := ∀ it v, letOwnedTupleGo tg it v = pure ()
theorem whole_name {x : Str} {p : Pos} : Whole (.Name x p) := fun _ _ => rfl
theorem turn_whole {P : Program} {w : World} {K : PySem.W.Frag} {tg : Expr} {k1 k2 : Sk} {a b z TI TO i1 i2 : Addr} (wh : Whole tg) (S : ZipSep2 z TI TO i1 i2 [i1, a] [i2, b]) (n1 : a ≠ i1) (n2 : b ≠ i2) :
    Turn P w K tg (ItP K k1 k2 a b) [z, TI, TO, i1, i2] z (fun i h => ZipG h z TI TO ∧ IsTupOf2 h TI (.ref i1) (.ref i2) ∧ (∃ x y, IsTupOf2 h TO x y) ∧ k1.iter h i1 a i ∧ k2.iter h i2 b i) where
  mem := by simp
  obj := fun i h st c hc => by
    obtain ⟨⟨_, _, hz, _⟩, hTI, ⟨x, y, hTO⟩, h1, h2⟩ := st
    simp only [List.mem_cons, List.not_mem_nil, or_false] at hc
    rcases hc with q | q | q | q | q <;> subst q
    · exact ⟨_, hz, fun v q => nomatch q⟩
    · exact ⟨_, hTI, fun v q => nomatch q⟩
    · exact ⟨_, hTO, fun v q => nomatch q⟩
    · exact k1.there h1
    · exact k2.there h2
  keep := fun i h h' st kp => by
    obtain ⟨⟨f0, f1, hz, l⟩, hTI, ⟨x, y, hTO⟩, h1, h2⟩ := st
    exact ⟨⟨f0, f1, kp z (by simp) _ hz, l⟩, kp TI (by simp) _ hTI, ⟨x, y, kp TO (by simp) _ hTO⟩, k1.keep h1 fun o q => kp i1 (by simp) o q, k2.keep h2 fun o q => kp i2 (by simp) o q⟩
  item := by
    intro X hP hw hK hc i pins s σ H E I hf st hg
    subst hP hw hK
    obtain ⟨hz, hTI, hTO, h1, h2⟩ := st
    obtain ⟨xs, ys, x, y, qx, qy, hx, hy⟩ := hg
    obtain ⟨us, r1, p1, la⟩ := k1.inv I qx
    obtain ⟨vs, r2, p2, lb⟩ := k2.inv I qy
    have hh : X.A.in1.handled = none := I.ok.hd hc
    have l1 : i < us.toArray.size := by
      have := (List.getElem?_eq_some_iff.mp hx).1
      rw [r1.length] at this
      simpa using this
    have l2 : i < vs.toArray.size := by
      have := (List.getElem?_eq_some_iff.mp hy).1
      rw [r2.length] at this
      simpa using this
    refine zipG_next_item S (k1.draws hh i1 a n1 us.toArray) (k2.draws hh i2 b n2 vs.toArray) hz hTI hTO ⟨h1, p1⟩ ⟨h2, p2⟩ l1 l2 fun u u2 h' tk e1 e2 hz' hTO' s1' s2' hT kp => ⟨_, rfl, ?_⟩
    rw [wh]
    obtain ⟨h1', _⟩ := s1'
    obtain ⟨h2', _⟩ := s2'
    have new : ObjOk X.prog X.w (upd H s.heap.objs.size (.tup [x, y])) h' s.heap.objs.size (.tup [x, y]) :=
      ⟨by show 2 ≤ sizeLine; decide, [u, u2], .cons (get_of r1 hx e1) (.cons (get_of r2 hy e2) .nil), ⟨_, hT, rfl, _, rfl⟩⟩
    have sub : ∀ c, c ∈ [z, TO, i1, i2] → c ∈ [z, TI, TO, i1, i2] := fun c hc => by
      simp only [List.mem_cons, List.not_mem_nil, or_false] at hc ⊢
      rcases hc with q | q | q | q
      · exact .inl q
      · exact .inr (.inr (.inl q))
      · exact .inr (.inr (.inr (.inl q)))
      · exact .inr (.inr (.inr (.inr q)))
    have kp' : ∀ c o, c ∉ [z, TO, i1, i2] → s.heap.get? c = some o → h'.get? c = some o := fun c o hb q => kp c o (fun e => hb (by simp [e])) (fun e => hb (by simp [e])) (fun e => hb (by simp [e])) (fun e => hb (by simp [e])) q
    have I1 : Inv X pins σ (upd H s.heap.objs.size (.tup [x, y])) { s with heap := h', toks := tk } := I.turnedNew (ch := [z, TO, i1, i2]) kp' (fun c hc => hf c (sub c hc)) (Nat.le_refl _) new
    have hTI' : IsTupOf2 h' TI (.ref i1) (.ref i2) := kp _ _ S.TIz S.TITO S.TIi1 S.TIi2 hTI
    refine wpAny_pure ⟨.ref s.heap.objs.size, _, I1, rfl, ⟨s.heap.objs.size, x, y, rfl, I.hok.fresh (Nat.le_refl _), rfl, fun l hl => by rw [k1.inj I hl qx]; exact hx, fun l hl => by rw [k2.inj I hl qy]; exact hy⟩, ⟨hz', hTI', hTO', h1', h2'⟩, fun c hc => ?_⟩
    have lt : c < s.heap.objs.size := by
      obtain ⟨_, _, hz, _⟩ := hz
      simp only [List.mem_cons, List.not_mem_nil, or_false] at hc
      rcases hc with q | q | q | q | q <;> subst q
      · exact Heap.lt_size hz
      · exact Heap.lt_size hTI
      · obtain ⟨_, _, e⟩ := hTO; exact Heap.lt_size e
      · obtain ⟨_, e, _⟩ := k1.there h1; exact Heap.lt_size e
      · obtain ⟨_, e, _⟩ := k2.there h2; exact Heap.lt_size e
    rw [upd_ne (Nat.ne_of_lt lt)]
    exact (hf c hc).1
  done := by
    intro X hP hw hK hc i pins s σ H E I hf st hg
    subst hP hw hK
    obtain ⟨hz, hTI, hTO, h1, h2⟩ := st
    obtain ⟨xs, ys, qx, qy, hi⟩ := hg
    obtain ⟨us, r1, p1, _⟩ := k1.inv I qx
    obtain ⟨vs, r2, p2, _⟩ := k2.inv I qy
    have hh : X.A.in1.handled = none := I.ok.hd hc
    have l1 : xs.length = us.toArray.size := by rw [List.size_toArray]; exact r1.length
    have l2 : ys.length = vs.toArray.size := by rw [List.size_toArray]; exact r2.length
    have sub : ∀ c, c ∈ [z, TO, i1, i2] → c ∈ [z, TI, TO, i1, i2] := fun c hc => by
      simp only [List.mem_cons, List.not_mem_nil, or_false] at hc ⊢
      rcases hc with q | q | q | q
      · exact .inl q
      · exact .inr (.inr (.inl q))
      · exact .inr (.inr (.inr (.inl q)))
      · exact .inr (.inr (.inr (.inr q)))
    refine zipG_next_end S (k1.draws hh i1 a n1 us.toArray) (k2.draws hh i2 b n2 vs.toArray) hz hTI hTO ⟨h1, p1⟩ ⟨h2, p2⟩ (by omega) (by omega) (by omega) fun h' tk kp => ⟨rfl, ?_⟩
    exact I.turnedL (ch := [z, TO, i1, i2]) (fun c o hb q => kp c o (fun e => hb (by simp [e])) (fun e => hb (by simp [e])) (fun e => hb (by simp [e])) (fun e => hb (by simp [e])) q) (fun c hc => hf c (sub c hc))
  self := fun A i s Q E st h => by
    obtain ⟨⟨_, _, hz, _⟩, _⟩ := st
    have hT : s.TypeIs (.ref z) "zip" := ⟨_, hz, rfl⟩
    refine wpAny_pyIter_slot hT F.slot_zip_iter (wpAny_call_entry F.slot_zip_iter hT F.entry_zip_iter ?_ (F.args_zip_iter_1 _))
    show wpAny _ _ (ret (.ref z)) _ _ s
    exact wpAny_pure ⟨_, rfl, "zip", _, hT, F.slot_zip_next.lookup, h⟩
theorem pi_zipN {X : Cx} {tg e e2 : Expr} {ta : TA} {p pos : Pos} (wh : Whole tg) (hg : Gl X "zip") (hm : X.mg "zip" = none) (ha : PA X [e, e2] ta)
    (hs : starEach [e, e2] X.env = (false, eval e X.env) :: starEach [e2] X.env := by rfl) (hpl : (backTo pos (starEach [e2] X.env)).any (·.1) = false := by rfl) :
    PI X tg (.Call (.Name "zip" p) [e, e2] [] pos) (iZipM X.K ta) := by
  refine ⟨fun pins s σ H R I h => ?_⟩
  refine Call_ (ld_blt I hg hm PyProof.Rows.boot_zip (PyProof.Rows.callWith_type1 (thn (ha.run pos pins s σ H _ I h) fun us s1 ⟨vs, H1, I1, r1, q1⟩ => ?_) hs hpl))
  obtain ⟨k1, k2, a, b, xs, ys, ex, qx, qy, q⟩ := q1
  subst ex
  obtain ⟨u1, u2, rfl, ra, rb⟩ := vals2 r1
  obtain rfl : u1 = Value.ref a := ra
  obtain rfl : u2 = Value.ref b := rb
  obtain ⟨its, _, p1, la⟩ := k1.inv I1 qx
  obtain ⟨its2, _, p2, lb⟩ := k2.inv I1 qy
  refine zip_begins2 (k1.begins a its.toArray) (k2.begins b its2.toArray) p1 p2 fun h' hz hTI hTO e1 e2 _ hk => wpAny_pyIter_zip hz ?_
  have I2 : Inv X pins σ H1 { s1 with heap := h' } := I1.kept (t' := s1.toks) hk
  have S := zip_sep2 (N := s1.heap.objs.size) (fp1 := [a]) (fp2 := [b]) (fun c hc => by rw [List.mem_singleton.mp hc]; exact la) (fun c hc => by rw [List.mem_singleton.mp hc]; exact lb)
  refine ⟨s1.heap.objs.size + 4, [s1.heap.objs.size + 4, s1.heap.objs.size + 2, s1.heap.objs.size + 3, s1.heap.objs.size, s1.heap.objs.size + 1], _, _, H1, rfl, I2, turn_whole wh S (Nat.ne_of_lt la) (Nat.ne_of_lt (Nat.lt_succ_of_lt lb)),
    ⟨⟨_, _, hz, .inl rfl⟩, hTI, ⟨_, _, hTO⟩, k1.start e1, k2.start e2⟩, fun c hc => ?_, q⟩
  have hle : s1.heap.objs.size ≤ c := by
    simp only [List.mem_cons, List.not_mem_nil, or_false] at hc
    rcases hc with z | z | z | z | z <;> rw [z]
    · exact Nat.le_add_right _ _
    · exact Nat.le_add_right _ _
    · exact Nat.le_add_right _ _
    · exact Nat.le_refl _
    · exact Nat.le_add_right _ _
  exact I1.fpOk hle (I1.hok.fresh hle)
end PB

/-! PM: loops over zip by one name; min of a list of data. -/
namespace PB
open PySem PySem.Spec L2
open PyProof.Rows hiding St
section
variable {X : Cx} {K : PySem.W.Frag}
theorem k_zipN {x : Str} {e e2 : Expr} {ta : TA} {p pos tpos : Pos} (eK : X.K = K) (hg : Gl X "zip") (hm : X.mg "zip" = none) (ha : PA X [e, e2] ta)
    (hs : starEach [e, e2] X.env = (false, eval e X.env) :: starEach [e2] X.env := by rfl) (hpl : (backTo pos (starEach [e2] X.env)).any (·.1) = false := by rfl) :
    PI X (.Name x tpos) (.Call (.Name "zip" p) [e, e2] [] pos) (iZipM K ta) := by
  subst eK
  exact pi_zipN whole_name hg hm ha hs hpl
end
section
variable {σ : St} {H : Hp} {D : Ends} {K : PySem.W.Frag} {tb : TS} {n : Nat}
theorem f_zipN {k1 k2 : Sk} {a b : Addr} {xs ys : List V} {j : Nat} (h1 : k1.at K H a xs) (h2 : k2.at K H b ys) (hn : n = min xs.length ys.length) (Pv : Nat → St → Hp → Prop) (h0 : Pv 0 σ H) (hG : ∀ i σ H, i ≤ n → Pv i σ H → k1.at K H a xs ∧ k2.at K H b ys)
    (hs : ∀ (i : Nat) x y T σ H, xs[i]? = some x → ys[i]? = some y → Pv i σ H → H T = none → tb { D with nx := Pv (i + 1), ct := Pv (i + 1), bk := D.nx } (σ.set j (some (.ref T))) (upd H T (.tup [x, y]))) (hd : ∀ σ H, Pv n σ H → D.nx σ H) :
    zQ K (FQ (gName j) tb D σ) [.ref a, .ref b] H :=
  z_P h1 h2 (f_it (walk_P hn) Pv h0 hG (fun i x σ H H' _ p y => by
    obtain ⟨T, u, v, e1, h1, e2, e3, e4⟩ := y
    subst e1 e2
    exact hs i u v T σ H e3 e4 p h1) hd)
end
section
variable {σ : St} {H : Hp} {Q : VK} {K : PySem.W.Frag} {tt : TT} {te : TE} {vs : List Nat}
theorem c_zipN {k1 k2 : Sk} {a b : Addr} {xs ys : List V} {j : Nat} (h1 : k1.at K H a xs) (h2 : k2.at K H b ys) (f : V → V → Option V) (hl : xs.length = ys.length) (hn : xs.length < 16000000) (hG : ∀ H', Ex H H' → k1.at K H' a xs ∧ k2.at K H' b ys)
    (hw : ∀ x, wipe ((wipe σ vs).set j (some x)) vs = wipe σ vs)
    (turn : ∀ x y T H1 (q : VK) (N : Hp → Prop), (x, y) ∈ xs.zip ys → Ex H H1 → H1 T = none → (∀ z H4, f x y = some z → Ex H1 H4 → q z H4) → (∀ H3, f x y = none → Ex H1 H3 → N H3) →
      tt ((wipe σ vs).set j (some (.ref T))) (upd H1 T (.tup [x, y])) fun b H4 => if b = true then te ((wipe σ vs).set j (some (.ref T))) H4 q else N H4)
    (done : ∀ L H', H L = none → Ex H H' → H' L = some (.lst ((xs.zip ys).filterMap fun z => f z.1 z.2)) → Q (.ref L) H') : zQ K (CQ (gName j) tt te vs σ Q) [.ref a, .ref b] H := by
  have hz : (xs.zip ys).length = xs.length := by rw [List.length_zip]; omega
  refine z_P h1 h2 (c_fn (walk_P (n := xs.length) (by omega)) (fun i => (xs.zip ys)[i]?.bind fun z => f z.1 z.2) hn hG (fun i x H1 H2 q N hi e1 y hq hN => ?_) (fun L H' h1 h2 h3 => done L H' h1 h2 ?_))
  · obtain ⟨T, u, v, e2, e3, e4, e5, e6⟩ := y
    subst e2 e4
    have ez : (xs.zip ys)[i]? = some (u, v) := by
      rw [List.getElem?_zip_eq_some]
      exact ⟨e5, e6⟩
    refine ⟨hw _, ?_⟩
    have em : (u, v) ∈ xs.zip ys := List.mem_of_getElem? ez
    refine turn u v T H1 q N em e1 e3 (fun z H4 e7 e8 => hq z H4 (by rw [ez]; exact e7) e8) (fun H3 e7 e8 => hN H3 (by rw [ez]; exact e7) e8)
  · rw [← hz] at h3
    rw [h3]
    rw [range_fm (xs.zip ys) fun z => f z.1 z.2]
theorem c_zipNI {k1 k2 : Sk} {a b : Addr} {gs as : List Int} {j : Nat} (h1 : k1.at K H a (gs.map V.int)) (h2 : k2.at K H b (as.map V.int)) (f : Int → Int → Int) (hl : gs.length = as.length) (hn : gs.length < 16000000)
    (hw : ∀ x, wipe ((wipe σ vs).set j (some x)) vs = wipe σ vs)
    (turn : ∀ x y T H1 (q : VK) (N : Hp → Prop), (x, y) ∈ gs.zip as → Ex H H1 → H1 T = none → (∀ H4, Ex H1 H4 → q (.int (f x y)) H4) →
      tt ((wipe σ vs).set j (some (.ref T))) (upd H1 T (.tup [.int x, .int y])) fun b H4 => if b = true then te ((wipe σ vs).set j (some (.ref T))) H4 q else N H4)
    (done : ∀ L H', H L = none → Ex H H' → H' L = some (.lst (((gs.zip as).map fun p => f p.1 p.2).map V.int)) → Q (.ref L) H') : zQ K (CQ (gName j) tt te vs σ Q) [.ref a, .ref b] H := by
  refine c_zipN h1 h2 (fun u v => match u, v with | .int i, .int j => some (V.int (f i j)) | _, _ => none) (by rw [List.length_map, List.length_map]; exact hl) (by rw [List.length_map]; exact hn) (fun H' e => ⟨k1.ex e h1, k2.ex e h2⟩) hw (fun x y T H1 q N hx e hT hq _ => ?_)
    fun L H' d1 d2 d3 => done L H' d1 d2 (d3.trans (congrArg (fun l => some (HO.lst l)) (zip_I f gs as)))
  obtain ⟨i, j, rfl, rfl, hm⟩ := mem_zipI hx
  exact turn i j T H1 q N hm e hT fun H4 e4 => hq _ H4 rfl e4
end
/-! ### min of data -/
section
open PySem.W
variable {X : Cx}
def rMinD (K : PySem.W.Frag) : List V → Hp → VK → Prop := fun vs H Q => ∃ (a : Addr) (xs : List V) (x : PyData) (ds : List PyData), vs = [.ref a] ∧ SqL K H a xs ∧ DpAll K H xs (x :: ds) ∧ AlikeAll (x :: ds) ∧ PyData.depthAll (x :: ds) ≤ 60 ∧
  ∀ (k : Nat) (v : V), xs[k]? = some v → (x :: ds)[k]? = some (minD x ds) → Q v H
theorem cr_minD {j : Nat} (hr : Room j X.A) (hc : X.calm = true) : CallR X (.builtin "min") (rMinD X.K) := by
  intro pins s σ H vs us Q I r h
  obtain ⟨a, xs, x, ds, rfl, hs, hd, ha, hu, q⟩ := h
  obtain ⟨its, rv, hl, _⟩ := I.list hs
  rw [Vals.ref1 r]
  obtain ⟨as, hR⟩ := Dp.readsAll I (x :: ds) xs its hd rv
  have hun := hr.un
  have hn : its.toArray.size = ds.length + 1 := readsAll_len (h := s.heap) (as := as) hR
  refine call_min_walkH (iter_listW (A := X.A.in1) (I.ok.hd hc) hl.isList fun s₂ e W st hfp hw hk => ?_)
  refine ⟨_, _, _, _, _, _, _, s.heap, _, rfl, W, st, hfp, by omega, hw, hk, cmpIn_lt (A := X.A.in1) (as := as) hR ha (by show X.A.units + 1 + _ < _; omega), fun v s' hP m => ?_⟩
  obtain ⟨h', tk, rfl, hk'⟩ := moved_old e rfl m
  have e1 : its.toArray.size - 1 = ds.length := by omega
  obtain ⟨e3, e2⟩ := argBest_fold dataLt PyData.none x ds ds.length (Nat.le_refl _)
  rw [List.take_length] at e2
  rw [e1] at hP
  generalize argBest (fun i j => dataLt ((x :: ds).getD i PyData.none) ((x :: ds).getD j PyData.none)) ds.length = k at *
  have hP : its.toArray[k]? = some v := hP
  have hlen := rv.length
  have lk : k < xs.length := by
    have := (Array.getElem?_eq_some_iff.mp hP).1
    rw [List.size_toArray] at this
    omega
  have hk2 : xs[k]? = some xs[k] := List.getElem?_eq_getElem lk
  have hx : (x :: ds)[k]? = some (minD x ds) := by
    have l2 : k < (x :: ds).length := by rw [List.length_cons]; omega
    rw [List.getElem?_eq_getElem l2]
    rw [List.getD_eq_getElem?_getD, List.getElem?_eq_getElem l2] at e2
    exact congrArg some e2
  exact ⟨xs[k], H, I.kept hk', get_of rv hk2 hP, q k _ hk2 hx⟩
end
end PB
namespace PB
open PySem PySem.Spec L2
open PyProof.Rows hiding St
theorem k_minR {X : Cx} {K : PySem.W.Frag} {j : Nat} (eK : X.K = K) (hr : Room j X.A) (hc : X.calm = true) : CallR X (.builtin "min") (rMinD K) := by
  subst eK
  exact cr_minD hr hc
end PB
namespace PB
open PySem PySem.Spec L2
open PyProof.Rows hiding St
section
variable {K : PySem.W.Frag} {H : Hp} {Q : VK} {a b : Addr}
/-- a list of rows and an empty one -/
theorem r_eqR0 {vs : List V} {rs : List (List Int)} (h1 : SqL K H a vs) (h3 : Rws K H vs rs) (h2 : SqL K H b []) (q : Q (.bl rs.isEmpty) H) : rEqA K (.ref a) (.ref b) H Q := by
  refine .inr ⟨_, _, .lst h1 h3.dp, .lst h2 .nil, sh_R, (by decide +kernel), ?_⟩
  cases rs with
  | nil => exact q
  | cons r rs => exact q
def minR (r : List Int) (rs : List (List Int)) : List Int := rs.foldl (fun a y => if y < a then y else a) r
theorem minD_R : ∀ (rs : List (List Int)) (r : List Int), PySem.W.minD (.tuple (dI r)) (rs.map fun r => .tuple (dI r)) = .tuple (dI (minR r rs))
  | [], r => rfl
  | s :: rs, r => by
    have ih := minD_R rs (if s < r then s else r)
    unfold PySem.W.minD minR at ih ⊢
    rw [List.map_cons, List.foldl_cons, List.foldl_cons, lt_T, ← ih]
    by_cases c : s < r
    · rw [if_pos c, decide_eq_true c]; rfl
    · rw [if_neg c, decide_eq_false c]; rfl
theorem dI_inj : ∀ {xs ys : List Int}, dI xs = dI ys → xs = ys
  | [], [], _ => rfl
  | [], _ :: _, h => by unfold dI at h; cases h
  | _ :: _, [], h => by unfold dI at h; cases h
  | x :: xs, y :: ys, h => by
    unfold dI at h
    rw [List.map_cons, List.map_cons] at h
    injection h with h1 h2
    injection h1 with h1
    rw [h1, dI_inj (xs := xs) (ys := ys) h2]
theorem ali_R (rs : List (List Int)) : PySem.W.AlikeAll (rs.map fun r => .tuple (dI r)) := by
  refine ⟨fun x hx y hy => ?_, fun x hx => ?_⟩
  · obtain ⟨r, _, rfl⟩ := List.mem_map.mp hx
    obtain ⟨s, _, rfl⟩ := List.mem_map.mp hy
    simp only [PySem.W.alike]
    exact ali_I r s
  · obtain ⟨r, _, rfl⟩ := List.mem_map.mp hx
    exact fun e => nomatch e
/-- the least of some rows -/
theorem r_minR {vs : List V} {r : List Int} {rs : List (List Int)} (h1 : SqL K H a vs) (h3 : Rws K H vs (r :: rs)) (q : ∀ (k : Nat) (v : V), vs[k]? = some v → (r :: rs)[k]? = some (minR r rs) → Row K H v (minR r rs) → Q v H) : rMinD K [.ref a] H Q := by
  refine ⟨a, vs, .tuple (dI r), rs.map fun r => .tuple (dI r), rfl, h1, h3.dp, ali_R (r :: rs), Nat.le_trans (dep_R (r :: rs)) (by decide), fun k v hv hk => ?_⟩
  rw [minD_R] at hk
  have hk' : ((r :: rs).map fun r => PyData.tuple (dI r))[k]? = some (.tuple (dI (minR r rs))) := hk
  rw [List.getElem?_map] at hk'
  obtain ⟨s, hs, e⟩ := Option.map_eq_some_iff.mp hk'
  injection e with e
  have e := dI_inj e
  subst e
  obtain ⟨s', hs', row⟩ := h3.get hv
  rw [hs] at hs'
  cases hs'
  exact q k v hv hs row
end
/-- rows of a range -/
theorem c_rngR {σ : St} {H : Hp} {Q : VK} {K : PySem.W.Frag} {tt : TT} {te : TE} {vs : List Nat} {j m : Nat} {lo : Int} (f : Nat → Option (List Int)) (hm : m < 16000000) (hw : ∀ x, wipe ((wipe σ vs).set j (some x)) vs = wipe σ vs)
    (turn : ∀ (i : Nat) H1 (q : VK) (N : Hp → Prop), i < m → Ex H H1 → (∀ v r H4, f i = some r → Ex H1 H4 → Row K H4 v r → q v H4) → (f i = none → ∀ H4, Ex H1 H4 → N H4) →
      tt ((wipe σ vs).set j (some (.int (lo + i)))) H1 fun b H4 => if b = true then te ((wipe σ vs).set j (some (.int (lo + i)))) H4 q else N H4)
    (done : ∀ L H' us, H L = none → Ex H H' → H' L = some (.lst us) → Rws K H' us ((List.range m).filterMap f) → Q (.ref L) H') : CQ (gName j) tt te vs σ Q (Itr lo m) H := by
  refine c_it walk_range hm (fun _ _ => trivial) (fun i acc H' => Rws K H' acc ((List.range i).filterMap f)) (fun _ _ => .nil) (fun L i acc H1 u u' hL _ p => p.put hL) ?_ ?_
  · rintro i x acc H1 H2 q N hi e1 p ⟨rfl, rfl⟩ hq hN
    have tk : (List.range (i + 1)).filterMap f = (List.range i).filterMap f ++ (f i).toList := by
      rw [List.range_succ, List.filterMap_append]
      congr 1
    refine ⟨hw _, turn i H2 q N hi e1 (fun v r H4 er e4 rw' => hq v H4 e4 ?_) fun en H4 e4 => hN H4 e4 ?_⟩
    · rw [tk, er]
      exact (p.ex e4).snoc rw'
    · rw [tk, en, Option.toList_none, List.append_nil]
      exact p.ex e4
  · intro L acc H' h1 h2 h3 _ h5
    exact done L H' acc h1 h2 h3 h5
end PB
namespace PB
open PySem PySem.Spec L2
open PyProof.Rows hiding St
/-- a tuple of small ints can be shown -/
theorem show_T {ns : List Int} (hl : ns.length ≤ 100) (hb : ∀ n ∈ ns, -1000000 ≤ n ∧ n ≤ 1000000) : (PyData.tuple (dI ns)).showable = true ∧ (PyData.tuple (dI ns)).hasDict = false ∧ (PyData.tuple (dI ns)).shown.length ≤ sizeLine ∧ (PyData.tuple (dI ns)).depth ≤ 60 := by
  have big : ∀ n ∈ ns, n.natAbs.log2 < 1920 := fun n hn => by
    have := hb n hn
    exact PyProof.Rows.shown (N := 1000001) (by omega) (by omega) (by decide)
  have hd : ∀ l : List Int, PyData.hasDictAll (l.map .int) = false := fun l => by
    induction l with
    | nil => rfl
    | cons x l ih => simp only [List.map_cons, PyData.hasDictAll, PyData.hasDict, ih, Bool.or_self]
  have hw : ∀ l : List Int, (∀ n ∈ l, n.natAbs.log2 < 1920) → PyData.weightAll (l.map .int) ≤ 2000 * l.length := fun l => by
    induction l with
    | nil => intro _; exact Nat.le_refl _
    | cons x l ih =>
      intro h
      have h1 := h x List.mem_cons_self
      have h2 := ih fun n hn => h n (List.mem_cons_of_mem _ hn)
      simp only [List.map_cons, PyData.weightAll, PyData.weight, List.length_cons]
      split <;> omega
  refine ⟨?_, ?_, ?_, by rw [dep_t]; decide⟩
  · simp only [PyData.showable]
    exact PyData.showableAll_ints ns big
  · simp only [PyData.hasDict]
    exact hd ns
  · refine Nat.le_trans (PyProof.Rows.shown_le13 ?_ ?_) (show 15728653 ≤ sizeLine by decide)
    · have h1 := hw ns big
      show (PyData.canLay0 _ && decide (PyData.depth _ ≤ 64) && decide (PyData.weight _ ≤ 2 ^ 20)) = true
      rw [Bool.and_eq_true, Bool.and_eq_true, decide_eq_true_eq, decide_eq_true_eq]
      refine ⟨⟨?_, by rw [dep_t]; decide⟩, ?_⟩
      · simp only [PyData.canLay0]
        exact lay_I ns
      · simp only [PyData.weight]
        refine Nat.le_trans h1 ?_
        have : 2000 * ns.length ≤ 2000 * 100 := Nat.mul_le_mul_left _ hl
        omega
    · simp only [PyData.intsShort]
      exact PyProof.Rows.intsShortAll_ints2 ns fun n hn => by have := hb n hn; omega
end PB

/-! PV: enumerate(zip(a, b)) by two names: the index, the pair as a whole. -/
namespace PB
open PySem PySem.Spec L2
open PyProof.Rows hiding St
section
variable {prog : Program} {w : World} {A : Around} {E : Value → Shared → Prop} {s : Shared} {e z TI TO i1 i2 : Addr} {fp1 fp2 : List Addr} {n1 n2 i : Nat} {c : Int} {old : Value} {P1 P2 : Nat → Value → Prop} {St1 St2 : Nat → Heap → Prop}
theorem nextOf_zip {Q : Value → Shared → Prop} (S : ZipSep2 z TI TO i1 i2 fp1 fp2) (D1 : Draws prog w A.in1 i1 fp1 n1 P1 St1) (D2 : Draws prog w A.in1 i2 fp2 n2 P2 St2)
    (hz : ZipG s.heap z TI TO) (hTI : IsTupOf2 s.heap TI (.ref i1) (.ref i2)) (hTO : ∃ a1 a2, IsTupOf2 s.heap TO a1 a2) (st1 : St1 i s.heap) (st2 : St2 i s.heap) (hlt1 : i < n1) (hlt2 : i < n2)
    (hQ : ∀ x1 x2 h' tk, P1 i x1 → P2 i x2 → ZipG h' z TI TO → (∃ a1 a2, IsTupOf2 h' TO a1 a2) → St1 (i + 1) h' → St2 (i + 1) h' → IsTupOf2 h' s.heap.objs.size x1 x2 →
      (∀ c o, c ≠ z → c ≠ TO → c ≠ i1 → c ≠ i2 → s.heap.get? c = some o → h'.get? c = some o) → Q (.ref s.heap.objs.size) { s with heap := h', toks := tk }) :
    wpAny (model prog w) A (Builtin.SmallTypes.nextOf (.ref z)) Q E s := by
  have hT : s.TypeIs (.ref z) "zip" := by obtain ⟨_, _, hz, _⟩ := hz; exact ⟨_, hz, rfl⟩
  unfold Builtin.SmallTypes.nextOf
  exact wpAny_bind (wpAny_callSpecial?_slot (name := Str.ofString "__next__") hT F.slot_zip_next
    (wpAny_call_entry F.slot_zip_next hT F.entry_zip_next
      (zipG_item S D1 D2 hz hTI hTO st1 st2 hlt1 hlt2 fun x1 x2 h' tk y1 y2 b1 b2 d1 d2 b5 b7 => wpAny_pure (hQ x1 x2 h' tk y1 y2 b1 b2 d1 d2 b5 b7)) (F.args_zip_next_1 _)))
theorem nextOf_zip_end {Q : Value → Shared → Prop} (S : ZipSep2 z TI TO i1 i2 fp1 fp2) (D1 : Draws prog w A.in1 i1 fp1 n1 P1 St1) (D2 : Draws prog w A.in1 i2 fp2 n2 P2 St2)
    (hz : ZipG s.heap z TI TO) (hTI : IsTupOf2 s.heap TI (.ref i1) (.ref i2)) (hTO : ∃ a1 a2, IsTupOf2 s.heap TO a1 a2) (st1 : St1 i s.heap) (st2 : St2 i s.heap) (hle1 : i ≤ n1) (hle2 : i ≤ n2) (hend : i = n1 ∨ i = n2)
    (hE : ∀ h' tk e, (∀ c o, c ≠ z → c ≠ TO → c ≠ i1 → c ≠ i2 → s.heap.get? c = some o → h'.get? c = some o) → (∃ o, h'.get? e = some o ∧ o.cls = .type "StopIteration") → E (.ref e) { s with heap := h', toks := tk }) :
    wpAny (model prog w) A (Builtin.SmallTypes.nextOf (.ref z)) Q E s := by
  have hT : s.TypeIs (.ref z) "zip" := by obtain ⟨_, _, hz, _⟩ := hz; exact ⟨_, hz, rfl⟩
  unfold Builtin.SmallTypes.nextOf
  exact wpAny_bind (wpAny_callSpecial?_slot (name := Str.ofString "__next__") hT F.slot_zip_next
    (wpAny_call_entry F.slot_zip_next hT F.entry_zip_next (zipG_end S D1 D2 hz hTI hTO st1 st2 hle1 hle2 hend fun h' tk e hk he => hE h' tk e hk he) (F.args_zip_next_1 _)))
/-- the next index and pair -/
theorem enumZ_item {Q : Value → Shared → Prop} (S : ZipSep2 z TI TO i1 i2 fp1 fp2) (D1 : Draws prog w A.in1 i1 fp1 n1 P1 St1) (D2 : Draws prog w A.in1 i2 fp2 n2 P2 St2) (he : IsEnum s.heap e z c old) (ez : e ≠ z) (eTO : e ≠ TO) (ei1 : e ≠ i1) (ei2 : e ≠ i2)
    (hz : ZipG s.heap z TI TO) (hTI : IsTupOf2 s.heap TI (.ref i1) (.ref i2)) (hTO : ∃ a1 a2, IsTupOf2 s.heap TO a1 a2) (st1 : St1 i s.heap) (st2 : St2 i s.heap) (hlt1 : i < n1) (hlt2 : i < n2)
    (hQ : ∀ x1 x2 hm tkm h' tk, P1 i x1 → P2 i x2 → ZipG hm z TI TO → (∃ a1 a2, IsTupOf2 hm TO a1 a2) → St1 (i + 1) hm → St2 (i + 1) hm → IsTupOf2 hm s.heap.objs.size x1 x2 →
      (∀ c o, c ≠ z → c ≠ TO → c ≠ i1 → c ≠ i2 → s.heap.get? c = some o → hm.get? c = some o) → IsEnumOut h' e z (c + 1) (.ref s.heap.objs.size) hm.objs.size →
      h'.get? hm.objs.size = some { cls := .type "tuple", data := .seq #[.int c tkm, .ref s.heap.objs.size] } → (∀ b o, b ≠ e → hm.get? b = some o → h'.get? b = some o) → Q (.ref hm.objs.size) { s with heap := h', toks := tk }) :
    wpAny (model prog w) A (Builtin.«enumerate.__next__» ⟨[.ref e], []⟩) (fun fin s' => ∃ v, fin = .done (.ret v) ∧ Q v s') E s := by
  obtain ⟨hp, g, d, tk₀, os⟩ := s
  show wpAny _ _ (field (.ref e) 2 >>= _) _ _ _
  refine wpAny_bind (wpAny_field he rfl (x := .ref z) rfl ?_)
  refine wpAny_bind (nextOf_zip S D1 D2 hz hTI hTO st1 st2 hlt1 hlt2 fun x1 x2 h₁ tk y1 y2 b1 b2 d1 d2 b5 b7 => ?_)
  replace b7 : ∀ c o, c ≠ z → c ≠ TO → c ≠ i1 → c ≠ i2 → hp.get? c = some o → h₁.get? c = some o := b7
  replace b5 : IsTupOf2 h₁ hp.objs.size x1 x2 := b5
  show wpAny _ _ (field (.ref e) 3 >>= _) _ _ ⟨h₁, g, d, tk, os⟩
  have he₁ : IsEnum h₁ e z c old := b7 _ _ ez eTO ei1 ei2 he
  refine wpAny_bind (wpAny_field he₁ rfl (x := rawInt c) rfl ?_)
  show wpAny _ _ (field (.ref e) 4 >>= _) _ _ ⟨h₁, g, d, tk, os⟩
  refine wpAny_bind (wpAny_field he₁ rfl (x := .none) rfl ?_)
  show wpAny _ _ (mkInt c >>= _) _ _ ⟨h₁, g, d, tk, os⟩
  refine wpAny_bind (wpAny_mkInt ?_)
  show wpAny _ _ (setField (.ref e) 3 (rawInt (c + 1)) >>= _) _ _ ⟨h₁, g, d, tk + 1, os⟩
  refine wpAny_bind (wpAny_setField_rec he₁ (by simp) fun h₂ he₂ hs₂ => ?_)
  replace hs₂ : Heap.SameBut e h₁ h₂ := hs₂
  replace he₂ : IsEnum h₂ e z (c + 1) old := he₂
  show wpAny _ _ (setField (.ref e) 4 .none >>= _) _ _ ⟨h₂, g, d, tk + 1, os⟩
  refine wpAny_bind (wpAny_setField_rec he₂ (by simp) fun h₃ he₃ hs₃ => ?_)
  replace hs₃ : Heap.SameBut e h₂ h₃ := hs₃
  replace he₃ : IsEnum h₃ e z (c + 1) old := he₃
  show wpAny _ _ (newTuple [.int c tk, .ref hp.objs.size] >>= _) _ _ ⟨h₃, g, d, tk + 1, os⟩
  refine wpAny_bind (wpAny_newTuple ?_)
  have he₄ : IsEnum (h₃.push { cls := .type "tuple", data := .seq #[.int c tk, .ref hp.objs.size] }) e z (c + 1) old := Heap.get?_push_of_some _ he₃
  have hsz : h₃.objs.size = h₁.objs.size := by rw [hs₃.1, hs₂.1]
  have hel : e < h₁.objs.size := Heap.lt_size he₁
  have ht₄ : (h₃.push { cls := .type "tuple", data := .seq #[.int c tk, .ref hp.objs.size] }).get? h₁.objs.size = some { cls := .type "tuple", data := .seq #[.int c tk, .ref hp.objs.size] } := by rw [← hsz]; exact Heap.get?_push_size _ rfl
  have hk₄ : ∀ b o, b ≠ e → h₁.get? b = some o → (h₃.push { cls := .type "tuple", data := .seq #[.int c tk, .ref hp.objs.size] }).get? b = some o := fun b o hbe hb =>
    Heap.get?_push_of_some _ (hs₃.extBut b o hbe (hs₂.extBut b o hbe hb))
  generalize h₃.push { cls := .type "tuple", data := .seq #[.int c tk, .ref hp.objs.size] } = h₄ at he₄ ht₄ hk₄ ⊢
  show wpAny _ _ (Builtin.SmallTypes.ownedTupleIsFree (.ref e) >>= _) _ _ ⟨h₄, g, d, tk + 1, os⟩
  rw [hsz]
  refine wpAny_bind ?_
  unfold Builtin.SmallTypes.ownedTupleIsFree
  refine wpAny_bind (wpAny_field he₄ rfl (x := .none) rfl (wpAny_pure ?_))
  simp only [if_true]
  refine wpAny_bind (wpAny_rule ?_)
  refine wpAny_bind (wpAny_field he₄ rfl (x := old) rfl ?_)
  refine wpAny_bind (wpAny_setField_rec he₄ (by simp) fun h₅ he₅ hs₅ => ?_)
  replace hs₅ : Heap.SameBut e h₄ h₅ := hs₅
  replace he₅ : IsEnum h₅ e z (c + 1) (.ref hp.objs.size) := he₅
  show wpAny _ _ (Builtin.SmallTypes.ownedTupleHandOut (.ref e) (.ref h₁.objs.size) >>= _) _ _ ⟨h₅, g, d, tk + 1, os⟩
  refine wpAny_bind ?_
  unfold Builtin.SmallTypes.ownedTupleHandOut
  refine wpAny_bind (wpAny_setField_rec he₅ (by simp) fun h₆ he₆ hs₆ => ?_)
  replace hs₆ : Heap.SameBut e h₅ h₆ := hs₆
  replace he₆ : IsEnumOut h₆ e z (c + 1) (.ref hp.objs.size) h₁.objs.size := he₆
  refine wpAny_setField_rec he₆ (by simp) fun h₇ he₇ hs₇ => ?_
  replace hs₇ : Heap.SameBut e h₆ h₇ := hs₇
  replace he₇ : IsEnumOut h₇ e z (c + 1) (.ref hp.objs.size) h₁.objs.size := he₇
  have up : ∀ b o, b ≠ e → h₄.get? b = some o → h₇.get? b = some o := fun b o hbe hb => hs₇.extBut b o hbe (hs₆.extBut b o hbe (hs₅.extBut b o hbe hb))
  exact wpAny_bind (wpAny_letGo (wpAny_pure ⟨_, rfl, hQ x1 x2 h₁ tk h₇ (tk + 1) y1 y2 b1 b2 d1 d2 b5 b7 he₇ (up _ _ (Nat.ne_of_gt hel) ht₄) fun b o hbe hb => up b o hbe (hk₄ b o hbe hb)⟩))
theorem enumZ_next_item {Q : Option Value → Shared → Prop} (S : ZipSep2 z TI TO i1 i2 fp1 fp2) (D1 : Draws prog w A.in1.in1 i1 fp1 n1 P1 St1) (D2 : Draws prog w A.in1.in1 i2 fp2 n2 P2 St2) (he : IsEnum s.heap e z c old) (ez : e ≠ z) (eTO : e ≠ TO) (ei1 : e ≠ i1) (ei2 : e ≠ i2)
    (hz : ZipG s.heap z TI TO) (hTI : IsTupOf2 s.heap TI (.ref i1) (.ref i2)) (hTO : ∃ a1 a2, IsTupOf2 s.heap TO a1 a2) (st1 : St1 i s.heap) (st2 : St2 i s.heap) (hlt1 : i < n1) (hlt2 : i < n2)
    (hQ : ∀ x1 x2 hm tkm h' tk, P1 i x1 → P2 i x2 → ZipG hm z TI TO → (∃ a1 a2, IsTupOf2 hm TO a1 a2) → St1 (i + 1) hm → St2 (i + 1) hm → IsTupOf2 hm s.heap.objs.size x1 x2 →
      (∀ c o, c ≠ z → c ≠ TO → c ≠ i1 → c ≠ i2 → s.heap.get? c = some o → hm.get? c = some o) → IsEnumOut h' e z (c + 1) (.ref s.heap.objs.size) hm.objs.size →
      h'.get? hm.objs.size = some { cls := .type "tuple", data := .seq #[.int c tkm, .ref s.heap.objs.size] } → (∀ b o, b ≠ e → hm.get? b = some o → h'.get? b = some o) → Q (some (.ref hm.objs.size)) { s with heap := h', toks := tk }) :
    wpAny (model prog w) A (pyNext (.ref e)) Q E s := by
  have hT : s.TypeIs (.ref e) "enumerate" := ⟨_, he, rfl⟩
  unfold pyNext
  exact wpAny_bind (wpAny_attempt (wpAny_callSpecial?_slot (name := Str.ofString "__next__") hT F.slot_enumerate_next
    (wpAny_call_entry F.slot_enumerate_next hT F.entry_enumerate_next
      (enumZ_item S D1 D2 he ez eTO ei1 ei2 hz hTI hTO st1 st2 hlt1 hlt2 fun x1 x2 hm tkm h' tk y1 y2 b1 b2 d1 d2 b5 b7 u1 u2 u3 => wpAny_pure (hQ x1 x2 hm tkm h' tk y1 y2 b1 b2 d1 d2 b5 b7 u1 u2 u3)) (F.args_enumerate_next_1 _))))
theorem enumZ_next_end {Q : Option Value → Shared → Prop} (S : ZipSep2 z TI TO i1 i2 fp1 fp2) (D1 : Draws prog w A.in1.in1 i1 fp1 n1 P1 St1) (D2 : Draws prog w A.in1.in1 i2 fp2 n2 P2 St2) (he : IsEnum s.heap e z c old)
    (hz : ZipG s.heap z TI TO) (hTI : IsTupOf2 s.heap TI (.ref i1) (.ref i2)) (hTO : ∃ a1 a2, IsTupOf2 s.heap TO a1 a2) (st1 : St1 i s.heap) (st2 : St2 i s.heap) (hle1 : i ≤ n1) (hle2 : i ≤ n2) (hend : i = n1 ∨ i = n2)
    (hQ : ∀ h' tk, (∀ c o, c ≠ z → c ≠ TO → c ≠ i1 → c ≠ i2 → s.heap.get? c = some o → h'.get? c = some o) → Q none { s with heap := h', toks := tk }) : wpAny (model prog w) A (pyNext (.ref e)) Q E s := by
  have hT : s.TypeIs (.ref e) "enumerate" := ⟨_, he, rfl⟩
  unfold pyNext
  refine wpAny_bind (wpAny_attempt (wpAny_callSpecial?_slot (name := Str.ofString "__next__") hT F.slot_enumerate_next
    (wpAny_call_entry F.slot_enumerate_next hT F.entry_enumerate_next ?_ (F.args_enumerate_next_1 _))))
  show wpAny _ _ (field (.ref e) 2 >>= _) _ _ _
  refine wpAny_bind (wpAny_field he rfl (x := .ref z) rfl ?_)
  refine wpAny_bind (nextOf_zip_end S D1 D2 hz hTI hTO st1 st2 hle1 hle2 hend fun h' tk x hk hx => ?_)
  obtain ⟨o, ho, hc⟩ := hx
  refine wpAny_bind (wpAny_isInstance (T := "StopIteration") (b := true) ⟨o, ho, hc⟩ isSubtype_stop ?_)
  exact wpAny_pure (hQ _ _ hk)
end
/-- the pairs of two sources, each with its index -/
def ItEZ (K : PySem.W.Frag) (k1 k2 : Sk) (a b : Addr) : It :=
  ⟨fun i H => ∃ (xs ys : List V) (x y : V), k1.at K H a xs ∧ k2.at K H b ys ∧ xs[i]? = some x ∧ ys[i]? = some y,
    fun i H v H' => ∃ T U x y, v = .ref U ∧ H T = none ∧ H U = none ∧ T ≠ U ∧ H' = upd (upd H T (.tup [x, y])) U (.tup [.int (i : Nat), .ref T]) ∧ (∀ xs, k1.at K H a xs → xs[i]? = some x) ∧ ∀ ys, k2.at K H b ys → ys[i]? = some y,
    fun i H => ∃ xs ys : List V, k1.at K H a xs ∧ k2.at K H b ys ∧ i = min xs.length ys.length⟩
theorem turn_ez {P : Program} {w : World} {K : PySem.W.Frag} {elts : List Expr} {kk : Nat} {tpos : Pos} {k1 k2 : Sk} {a b e z TI TO i1 i2 : Addr} (S : ZipSep2 z TI TO i1 i2 [i1, a] [i2, b]) (n1 : a ≠ i1) (n2 : b ≠ i2) (ez : e ≠ z) (eTI : e ≠ TI) (eTO : e ≠ TO) (ei1 : e ≠ i1) (ei2 : e ≠ i2) (ea : e ≠ a) (eb : e ≠ b) :
    Turn P w K (.Tuple elts kk tpos) (ItEZ K k1 k2 a b) [e, z, TI, TO, i1, i2] e (fun i h => (∃ old, IsEnum h e z (i : Nat) old) ∧ ZipG h z TI TO ∧ IsTupOf2 h TI (.ref i1) (.ref i2) ∧ (∃ x y, IsTupOf2 h TO x y) ∧ k1.iter h i1 a i ∧ k2.iter h i2 b i) where
  mem := by simp
  obj := fun i h st c hc => by
    obtain ⟨⟨_, he⟩, ⟨_, _, hz, _⟩, hTI, ⟨x, y, hTO⟩, h1, h2⟩ := st
    simp only [List.mem_cons, List.not_mem_nil, or_false] at hc
    rcases hc with q | q | q | q | q | q <;> subst q
    · exact ⟨_, he, fun v q => nomatch q⟩
    · exact ⟨_, hz, fun v q => nomatch q⟩
    · exact ⟨_, hTI, fun v q => nomatch q⟩
    · exact ⟨_, hTO, fun v q => nomatch q⟩
    · exact k1.there h1
    · exact k2.there h2
  keep := fun i h h' st kp => by
    obtain ⟨⟨old, he⟩, ⟨f0, f1, hz, l⟩, hTI, ⟨x, y, hTO⟩, h1, h2⟩ := st
    exact ⟨⟨old, kp e (by simp) _ he⟩, ⟨f0, f1, kp z (by simp) _ hz, l⟩, kp TI (by simp) _ hTI, ⟨x, y, kp TO (by simp) _ hTO⟩, k1.keep h1 fun o q => kp i1 (by simp) o q, k2.keep h2 fun o q => kp i2 (by simp) o q⟩
  item := by
    intro X hP hw hK hc i pins s σ H E I hf st hg
    subst hP hw hK
    obtain ⟨⟨old, he⟩, hz, hTI, hTO, h1, h2⟩ := st
    obtain ⟨xs, ys, x, y, qx, qy, hx, hy⟩ := hg
    obtain ⟨us, r1, p1, la⟩ := k1.inv I qx
    obtain ⟨vs, r2, p2, lb⟩ := k2.inv I qy
    have hh : X.A.in1.in1.handled = none := I.ok.hd hc
    have l1 : i < us.toArray.size := by
      have := (List.getElem?_eq_some_iff.mp hx).1
      rw [r1.length] at this
      simpa using this
    have l2 : i < vs.toArray.size := by
      have := (List.getElem?_eq_some_iff.mp hy).1
      rw [r2.length] at this
      simpa using this
    have ltz : z < s.heap.objs.size := by obtain ⟨_, _, hz, _⟩ := hz; exact Heap.lt_size hz
    have ltTO : TO < s.heap.objs.size := by obtain ⟨_, _, q⟩ := hTO; exact Heap.lt_size q
    have lt1 : i1 < s.heap.objs.size := by obtain ⟨_, q, _⟩ := k1.there h1; exact Heap.lt_size q
    have lt2 : i2 < s.heap.objs.size := by obtain ⟨_, q, _⟩ := k2.there h2; exact Heap.lt_size q
    have lte : e < s.heap.objs.size := Heap.lt_size he
    refine enumZ_next_item S (k1.draws hh i1 a n1 us.toArray) (k2.draws hh i2 b n2 vs.toArray) he ez eTO ei1 ei2 hz hTI hTO ⟨h1, p1⟩ ⟨h2, p2⟩ l1 l2 fun u u2 hm tkm h' tk e1 e2 hz' hTO' s1' s2' hT kp ho hU kp2 => ⟨_, rfl, ?_⟩
    obtain ⟨h1', _⟩ := s1'
    obtain ⟨h2', _⟩ := s2'
    have ltm : s.heap.objs.size < hm.objs.size := Heap.lt_size hT
    have new : ObjOk X.prog X.w (upd H s.heap.objs.size (.tup [x, y])) hm s.heap.objs.size (.tup [x, y]) :=
      ⟨by show 2 ≤ sizeLine; decide, [u, u2], .cons (get_of r1 hx e1) (.cons (get_of r2 hy e2) .nil), ⟨_, hT, rfl, _, rfl⟩⟩
    have sub : ∀ c, c ∈ [z, TO, i1, i2] → c ∈ [e, z, TI, TO, i1, i2] := fun c hc => by
      simp only [List.mem_cons, List.not_mem_nil, or_false] at hc ⊢
      rcases hc with q | q | q | q
      · exact .inr (.inl q)
      · exact .inr (.inr (.inr (.inl q)))
      · exact .inr (.inr (.inr (.inr (.inl q))))
      · exact .inr (.inr (.inr (.inr (.inr q))))
    have kp' : ∀ c o, c ∉ [z, TO, i1, i2] → s.heap.get? c = some o → hm.get? c = some o := fun c o hb q => kp c o (fun e => hb (by simp [e])) (fun e => hb (by simp [e])) (fun e => hb (by simp [e])) (fun e => hb (by simp [e])) q
    have I1 : Inv X pins σ (upd H s.heap.objs.size (.tup [x, y])) { s with heap := hm, toks := tkm } := I.turnedNew (ch := [z, TO, i1, i2]) kp' (fun c hc => hf c (sub c hc)) (Nat.le_refl _) new
    refine wpAny_letOwnedTupleGo_enum ho fun h3 he3 hs3 => ?_
    replace hs3 : Heap.SameBut e h' h3 := hs3
    have kp3 : ∀ b o, b ≠ e → hm.get? b = some o → h3.get? b = some o := fun b o hb q => hs3.extBut b o hb (kp2 b o hb q)
    have new2 : ObjOk X.prog X.w (upd (upd H s.heap.objs.size (.tup [x, y])) hm.objs.size (.tup [.int (i : Nat), .ref s.heap.objs.size])) h3 hm.objs.size (.tup [.int (i : Nat), .ref s.heap.objs.size]) :=
      ⟨by show 2 ≤ sizeLine; decide, [.int (i : Nat) tkm, .ref s.heap.objs.size], .cons ⟨tkm, rfl⟩ (.cons rfl .nil), ⟨_, hs3.extBut _ _ (Nat.ne_of_gt (Nat.lt_trans lte ltm)) hU, rfl, _, rfl⟩⟩
    have fe : FpOk X pins (upd H s.heap.objs.size (.tup [x, y])) e := by
      have q := hf e (by simp)
      exact ⟨(upd_ne (Nat.ne_of_lt lte)).trans q.1, q.2⟩
    have I2 : Inv X pins σ (upd (upd H s.heap.objs.size (.tup [x, y])) hm.objs.size (.tup [.int (i : Nat), .ref s.heap.objs.size])) { s with heap := h3, toks := tk } :=
      I1.turnedNew (t' := tk) (ch := [e]) (fun c o hb q => kp3 c o (fun z => hb (by simp [z])) q) (fun c hc => by rw [List.mem_singleton.mp hc]; exact fe) (Nat.le_refl _) new2
    have hTI' : IsTupOf2 h3 TI (.ref i1) (.ref i2) := kp3 _ _ (Ne.symm eTI) (kp _ _ S.TIz S.TITO S.TIi1 S.TIi2 hTI)
    have hz3 : ZipG h3 z TI TO := by obtain ⟨f0, f1, q, l⟩ := hz'; exact ⟨f0, f1, kp3 _ _ (Ne.symm ez) q, l⟩
    have hTO3 : ∃ x y, IsTupOf2 h3 TO x y := by obtain ⟨x, y, q⟩ := hTO'; exact ⟨x, y, kp3 _ _ (Ne.symm eTO) q⟩
    have i13 : k1.iter h3 i1 a (i + 1) := k1.keep h1' fun o q => kp3 _ _ (Ne.symm ei1) q
    have i23 : k2.iter h3 i2 b (i + 1) := k2.keep h2' fun o q => kp3 _ _ (Ne.symm ei2) q
    refine ⟨.ref hm.objs.size, _, I2, rfl, ⟨s.heap.objs.size, hm.objs.size, x, y, rfl, I.hok.fresh (Nat.le_refl _), I.hok.fresh (Nat.le_of_lt ltm), Nat.ne_of_lt ltm, rfl, fun l hl => by rw [k1.inj I hl qx]; exact hx, fun l hl => by rw [k2.inj I hl qy]; exact hy⟩, ⟨⟨_, by rw [Int.natCast_add]; exact he3⟩, hz3, hTI', hTO3, i13, i23⟩, fun c hc => ?_⟩
    have lt : c < s.heap.objs.size := by
      simp only [List.mem_cons, List.not_mem_nil, or_false] at hc
      rcases hc with q | q | q | q | q | q <;> rw [q]
      · exact lte
      · exact ltz
      · exact Heap.lt_size hTI
      · exact ltTO
      · exact lt1
      · exact lt2
    rw [upd_ne (Nat.ne_of_lt (Nat.lt_trans lt ltm)), upd_ne (Nat.ne_of_lt lt)]
    exact (hf c hc).1
  done := by
    intro X hP hw hK hc i pins s σ H E I hf st hg
    subst hP hw hK
    obtain ⟨⟨old, he⟩, hz, hTI, hTO, h1, h2⟩ := st
    obtain ⟨xs, ys, qx, qy, hi⟩ := hg
    obtain ⟨us, r1, p1, _⟩ := k1.inv I qx
    obtain ⟨vs, r2, p2, _⟩ := k2.inv I qy
    have hh : X.A.in1.in1.handled = none := I.ok.hd hc
    have l1 : xs.length = us.toArray.size := by rw [List.size_toArray]; exact r1.length
    have l2 : ys.length = vs.toArray.size := by rw [List.size_toArray]; exact r2.length
    have sub : ∀ c, c ∈ [z, TO, i1, i2] → c ∈ [e, z, TI, TO, i1, i2] := fun c hc => by
      simp only [List.mem_cons, List.not_mem_nil, or_false] at hc ⊢
      rcases hc with q | q | q | q
      · exact .inr (.inl q)
      · exact .inr (.inr (.inr (.inl q)))
      · exact .inr (.inr (.inr (.inr (.inl q))))
      · exact .inr (.inr (.inr (.inr (.inr q))))
    refine enumZ_next_end S (k1.draws hh i1 a n1 us.toArray) (k2.draws hh i2 b n2 vs.toArray) he hz hTI hTO ⟨h1, p1⟩ ⟨h2, p2⟩ (by omega) (by omega) (by omega) fun h' tk kp => ⟨rfl, ?_⟩
    exact I.turnedL (ch := [z, TO, i1, i2]) (fun c o hb q => kp c o (fun e => hb (by simp [e])) (fun e => hb (by simp [e])) (fun e => hb (by simp [e])) (fun e => hb (by simp [e])) q) (fun c hc => hf c (sub c hc))
  self := fun A i s Q E st h => let ⟨⟨_, he⟩, _⟩ := st; wpAny_pyIter_enum he h
set_option maxHeartbeats 8000000 in
theorem enum_newZ {z TI TO : Addr} : Meets (Builtin.«enumerate.__new__» ⟨[.type "enumerate", .ref z], []⟩) fun _ R s => IsZip s.heap z TI TO .none ∧
      R (.ok (.ret (.ref s.heap.objs.size))) { s with heap := s.heap.push { cls := .type "enumerate", data := .fields #[.none, .bool false, .ref z, rawInt 0, .none, .none] } } :=
  .of_wp fun prog w A R s h => by
    obtain ⟨hp, g, d, tk, os⟩ := s
    obtain ⟨h1, h⟩ := h
    have sb := sub_enumerate
    have q1 : ∀ {A' : Around} {E Q : Value → Shared → Prop}, Q (.ref z) ⟨hp, g, d, tk, os⟩ → wpAny (model prog w) A' (pyIter (.ref z)) Q E ⟨hp, g, d, tk, os⟩ := fun q => wpAny_pyIter_zip h1 q
    wp_walk using q1
    refine wpAny_stack_any fun st => wpAny_pure ?_
    split
    · rename_i c _ _ _ _ _
      cases (c == Value.type "enumerate") <;> (wp_walk using q1; exact ⟨_, rfl, h⟩)
    · wp_walk using q1
      exact ⟨_, rfl, h⟩
theorem enum_beginsZ {prog : Program} {w : World} {A : Around} {E Q : Value → Shared → Prop} {s : Shared} {z TI TO : Addr} (h1 : IsZip s.heap z TI TO .none)
    (h : ∀ h', IsEnum h' s.heap.objs.size z 0 .none → (∀ b u, s.heap.get? b = some u → h'.get? b = some u) → Q (.ref s.heap.objs.size) { s with heap := h' }) :
    wpAny (model prog w) A (call (.type "enumerate") [.ref z]) Q E s := by
  refine callType_new F.called_enumerate (by decide) (F.typeCall_enumerate_1 _) (F.newCall_enumerate_1 _) (fun x => F.args_object_init_2 x _) F.entry_enumerate_new enum_newZ ⟨h1, ?_⟩
  show _ ∧ _
  have he : IsEnum (s.heap.push { cls := .type "enumerate", data := .fields #[.none, .bool false, .ref z, rawInt 0, .none, .none] }) s.heap.objs.size z 0 .none := Heap.get?_push_size _ rfl
  exact ⟨⟨_, he, rfl⟩, h _ he fun b u x => Heap.get?_push_of_some _ x⟩
def iEZ (K : PySem.W.Frag) (ta : TA) : TI := fun σ H R => ta σ H fun vs H1 => ∃ (k1 k2 : Sk) (a b : Addr) (xs ys : List V), vs = [.ref a, .ref b] ∧ k1.at K H1 a xs ∧ k2.at K H1 b ys ∧ R (ItEZ K k1 k2 a b) H1
theorem pi_ez {X : Cx} {K : PySem.W.Frag} {e e2 : Expr} {ta : TA} {p p2 pos pos2 tpos : Pos} {elts : List Expr} {kk : Nat} (eK : X.K = K) (hg : Gl X "enumerate") (hm : X.mg "enumerate" = none) (hg2 : Gl X "zip") (hm2 : X.mg "zip" = none) (ha : PA X [e, e2] ta)
    (hs0 : starEach [.Call (.Name "zip" p2) [e, e2] [] pos2] X.env = [(false, eval (.Call (.Name "zip" p2) [e, e2] [] pos2) X.env)] := by rfl)
    (hs : starEach [e, e2] X.env = (false, eval e X.env) :: starEach [e2] X.env := by rfl) (hpl : (backTo pos2 (starEach [e2] X.env)).any (·.1) = false := by rfl) :
    PI X (.Tuple elts kk tpos) (.Call (.Name "enumerate" p) [.Call (.Name "zip" p2) [e, e2] [] pos2] [] pos) (iEZ K ta) := by
  subst eK
  refine ⟨fun pins s σ H R I h => ?_⟩
  refine Call_ (ld_blt I hg hm boot_enumerate (PyProof.Rows.callWith_type1 ?_ hs0 rfl))
  rw [hs0]
  show wpAny _ _ (spliced ((false, eval (.Call (.Name "zip" p2) [e, e2] [] pos2) X.env) :: backTo pos (starEach [] X.env))) _ _ s
  refine Calls.spliced_cons ?_
  refine Call_ (ld_blt I hg2 hm2 PyProof.Rows.boot_zip (PyProof.Rows.callWith_type1 (thn (ha.run pos2 pins s σ H _ I h) fun us s1 ⟨vs, H1, I1, r1, q1⟩ => ?_) hs hpl))
  obtain ⟨k1, k2, a, b, xs, ys, ex, qx, qy, q⟩ := q1
  subst ex
  obtain ⟨u1, u2, rfl, ra, rb⟩ := vals2 r1
  obtain rfl : u1 = Value.ref a := ra
  obtain rfl : u2 = Value.ref b := rb
  obtain ⟨its, _, p1, la⟩ := k1.inv I1 qx
  obtain ⟨its2, _, p2, lb⟩ := k2.inv I1 qy
  refine zip_begins2 (k1.begins a its.toArray) (k2.begins b its2.toArray) p1 p2 fun h' hz hTI hTO e1 e2 sz hk => ?_
  have I2 : Inv X pins σ H1 { s1 with heap := h' } := I1.kept (t' := s1.toks) hk
  refine Calls.spliced_nil ?_
  have S := zip_sep2 (N := s1.heap.objs.size) (fp1 := [a]) (fp2 := [b]) (fun c hc => by rw [List.mem_singleton.mp hc]; exact la) (fun c hc => by rw [List.mem_singleton.mp hc]; exact lb)
  have la' : (a : Nat) < s1.heap.objs.size := la
  have lb' : (b : Nat) < s1.heap.objs.size := lb
  have far : ∀ {c : Nat}, c < s1.heap.objs.size + 5 → (h'.objs.size : Nat) ≠ c := fun hc => by omega
  refine enum_beginsZ (s := { s1 with heap := h' }) hz fun h2 he hk2 => wpAny_pyIter_enum he ?_
  have I3 : Inv X pins σ H1 { s1 with heap := h2 } := I2.kept (t' := s1.toks) hk2
  refine ⟨h'.objs.size, [h'.objs.size, s1.heap.objs.size + 4, s1.heap.objs.size + 2, s1.heap.objs.size + 3, s1.heap.objs.size, s1.heap.objs.size + 1], _, _, H1, rfl, I3,
    turn_ez S (Nat.ne_of_lt la) (Nat.ne_of_lt (Nat.lt_succ_of_lt lb)) (far (by omega)) (far (by omega)) (far (by omega)) (far (by omega)) (far (by omega)) (far (Nat.lt_of_lt_of_le la (Nat.le_add_right _ _))) (far (Nat.lt_of_lt_of_le lb (Nat.le_add_right _ _))),
    ⟨⟨_, he⟩, ⟨_, _, hk2 _ _ hz, .inl rfl⟩, hk2 _ _ hTI, ⟨_, _, hk2 _ _ hTO⟩, k1.start (hk2 _ _ e1), k2.start (hk2 _ _ e2)⟩, fun c hc => ?_, q⟩
  have hle : s1.heap.objs.size ≤ c := by
    simp only [List.mem_cons, List.not_mem_nil, or_false] at hc
    rcases hc with z | z | z | z | z | z <;> rw [z]
    · rw [sz]; exact Nat.le_add_right _ _
    · exact Nat.le_add_right _ _
    · exact Nat.le_add_right _ _
    · exact Nat.le_add_right _ _
    · exact Nat.le_refl _
    · exact Nat.le_add_right _ _
  exact I1.fpOk hle (I1.hok.fresh hle)
def ezQ (K : PySem.W.Frag) (R : It → Hp → Prop) : List V → Hp → Prop := fun vs H1 => ∃ (k1 k2 : Sk) (a b : Addr) (xs ys : List V), vs = [.ref a, .ref b] ∧ k1.at K H1 a xs ∧ k2.at K H1 b ys ∧ R (ItEZ K k1 k2 a b) H1
/-- what each turn brings -/
def YEZ (f g : Nat → Option V) : Nat → Hp → V → Hp → Prop := fun i H v H' => ∃ T U x y, v = .ref U ∧ H T = none ∧ H U = none ∧ T ≠ U ∧ H' = upd (upd H T (.tup [x, y])) U (.tup [.int (i : Nat), .ref T]) ∧ f i = some x ∧ g i = some y
section
variable {σ : St} {H : Hp} {D : Ends} {K : PySem.W.Frag} {tb : TS} {ta : TA} {R : It → Hp → Prop} {n : Nat} {a b : Addr} {xs ys : List V}
theorem r_iEZ (h : ta σ H (ezQ K R)) : iEZ K ta σ H R := h
theorem walk_EZ {k1 k2 : Sk} {n : Nat} (hn : n = min xs.length ys.length) : Walk (ItEZ K k1 k2 a b) n (fun H => k1.at K H a xs ∧ k2.at K H b ys) (YEZ (fun i => xs[i]?) (fun i => ys[i]?)) := by
  subst hn
  refine ⟨fun i _ hi q => ?_, fun _ q => ⟨xs, ys, q.1, q.2, rfl⟩, fun i H v H' _ q y => ?_⟩
  · have h1 : i < xs.length := by omega
    have h2 : i < ys.length := by omega
    exact ⟨xs, ys, xs[i], ys[i], q.1, q.2, List.getElem?_eq_getElem h1, List.getElem?_eq_getElem h2⟩
  · obtain ⟨T, U, x, z, h1, h2, h3, h3', h4, h5, h6⟩ := y
    exact ⟨T, U, x, z, h1, h2, h3, h3', h4, h5 xs q.1, h6 ys q.2⟩
/-- enumerate(zip(..)) by two names -/
theorem f_ez {k1 k2 : Sk} {j l : Nat} (h1 : k1.at K H a xs) (h2 : k2.at K H b ys) (hn : n = min xs.length ys.length) (Pv : Nat → St → Hp → Prop) (h0 : Pv 0 σ H) (hG : ∀ i σ H, i ≤ n → Pv i σ H → k1.at K H a xs ∧ k2.at K H b ys)
    (hs : ∀ (i : Nat) x y T U σ H, i < n → xs[i]? = some x → ys[i]? = some y → Pv i σ H → H T = none → H U = none → T ≠ U → tb { D with nx := Pv (i + 1), ct := Pv (i + 1), bk := D.nx } ((σ.set j (some (.int (i : Nat)))).set l (some (.ref T))) (upd (upd H T (.tup [x, y])) U (.tup [.int (i : Nat), .ref T]))) (hd : ∀ σ H, Pv n σ H → D.nx σ H) :
    ezQ K (FQ (gTup K 2 (gCons (gName j) (gCons (gName l) gNil))) tb D σ) [.ref a, .ref b] H :=
  ⟨k1, k2, a, b, xs, ys, rfl, h1, h2, f_it (walk_EZ hn) Pv h0 hG (fun i x σ H H' hi p y => by
    obtain ⟨T, U, u, v, e1, t1, t2, ne, e2, e3, e4⟩ := y
    subst e1 e2
    exact g_two (hs i u v T U σ H hi e3 e4 p t1 t2 ne)) hd⟩
end
end PB

/-! PU: nested data (none, bools, ints, texts, tuples, lists) as values; texts walked, picked from, joined, repeated. -/
namespace PB
open PySem PySem.Spec L2
open PyProof.Rows hiding St
section
variable {K : PySem.W.Frag} {H H' : Hp} {v : V} {a d : Addr} {p : PyData} {vs : List V} {ds : List PyData}
def tyD : PyData → String
  | .none => "NoneType"
  | .bool _ => "bool"
  | .int _ => "int"
  | .str _ => "str"
  | .list _ => "list"
  | .tuple _ => "tuple"
  | .dict _ => "dict"
theorem IsTy.sqL {xs : List V} (h : SqL K H a xs) : IsTy K H (.ref a) "list" := by
  rcases h with (h | ⟨o, h⟩) | ⟨o, its, n, h, c, _⟩
  · exact .lst h
  · exact ⟨.base (.frz h), by decide⟩
  · exact ⟨.kList h c, by decide⟩
theorem Dp.ty (h : Dp K H v p) : IsTy K H v (tyD p) := by
  cases h with
  | non => exact .non
  | bl b => exact .bl b
  | int i => exact .int i
  | str x => exact .str x
  | lst h _ => exact .sqL h
  | tup h _ => exact .sqT h
mutual
theorem dp_mono (ml : ∀ a xs, SqL K H a xs → SqL K H' a xs) (mt : ∀ a xs, SqT K H a xs → SqT K H' a xs) : ∀ (p : PyData) (v : V), Dp K H v p → Dp K H' v p
  | .none, _, .non => .non
  | .bool _, _, .bl b => .bl b
  | .int _, _, .int i => .int i
  | .str _, _, .str x => .str x
  | .list ds, _, .lst h k => .lst (ml _ _ h) (dpAll_mono ml mt ds _ k)
  | .tuple ds, _, .tup h k => .tup (mt _ _ h) (dpAll_mono ml mt ds _ k)
theorem dpAll_mono (ml : ∀ a xs, SqL K H a xs → SqL K H' a xs) (mt : ∀ a xs, SqT K H a xs → SqT K H' a xs) : ∀ (ds : List PyData) (vs : List V), DpAll K H vs ds → DpAll K H' vs ds
  | [], _, .nil => .nil
  | d :: ds, _, .cons h k => .cons (dp_mono ml mt d _ h) (dpAll_mono ml mt ds _ k)
end
mutual
/-- no list within -/
def nl : PyData → Bool
  | .list _ | .dict _ => false
  | .tuple xs => nlAll xs
  | _ => true
def nlAll : List PyData → Bool
  | [] => true
  | x :: xs => nl x && nlAll xs
end
mutual
theorem dp_nl (mt : ∀ a xs, SqT K H a xs → SqT K H' a xs) : ∀ (p : PyData) (v : V), nl p = true → Dp K H v p → Dp K H' v p
  | .none, _, _, .non => .non
  | .bool _, _, _, .bl b => .bl b
  | .int _, _, _, .int i => .int i
  | .str _, _, _, .str x => .str x
  | .list ds, _, e, .lst h k => by simp only [nl] at e; cases e
  | .tuple ds, _, e, .tup h k => .tup (mt _ _ h) (dpAll_nl mt ds _ (by simpa only [nl] using e) k)
theorem dpAll_nl (mt : ∀ a xs, SqT K H a xs → SqT K H' a xs) : ∀ (ds : List PyData) (vs : List V), nlAll ds = true → DpAll K H vs ds → DpAll K H' vs ds
  | [], _, _, .nil => .nil
  | d :: ds, _, e, .cons h k => by
    have e' : nl d = true ∧ nlAll ds = true := by simpa only [nlAll, Bool.and_eq_true] using e
    exact .cons (dp_nl mt d _ e'.1 h) (dpAll_nl mt ds _ e'.2 k)
end
theorem nlAll_iff : ∀ ds : List PyData, nlAll ds = true ↔ ∀ p ∈ ds, nl p = true
  | [] => by simp [nlAll]
  | d :: ds => by simp [nlAll, nlAll_iff ds]
theorem Dp.ex (e : Ex H H') (h : Dp K H v p) : Dp K H' v p := dp_mono (fun _ _ => sqL_ex e) (fun _ _ => sqT_ex e) _ _ h
theorem Dp.exn (e : ExN H H') (h : Dp K H v p) : Dp K H' v p := dp_mono (fun _ _ => sqL_exn e) (fun _ _ => sqT_exn e) _ _ h
theorem DpA.ex (e : Ex H H') (h : DpAll K H vs ds) : DpAll K H' vs ds := dpAll_mono (fun _ _ => sqL_ex e) (fun _ _ => sqT_ex e) _ _ h
theorem DpA.exn (e : ExN H H') (h : DpAll K H vs ds) : DpAll K H' vs ds := dpAll_mono (fun _ _ => sqL_exn e) (fun _ _ => sqT_exn e) _ _ h
/-- a tuple where a list changes -/
theorem sqT_enL {xs zs : List V} (hd : H d = some (.lst zs)) (e : EN d H H') (h : SqT K H a xs) : SqT K H' a xs := by
  rcases h with (h | ⟨o, h⟩) | h
  · exact .inl (.inl (e _ _ (fun z => by rw [z, hd] at h; cases h) h fun _ z => by cases z))
  · exact .inl (.inr ⟨o, e _ _ (fun z => by rw [z, hd] at h; cases h) h fun _ z => by cases z⟩)
  · exact .inr h
theorem Dp.en {zs : List V} (hd : H d = some (.lst zs)) (e : EN d H H') (n : nl p = true) (h : Dp K H v p) : Dp K H' v p := dp_nl (fun _ _ => sqT_enL hd e) _ _ n h
theorem DpA.en {zs : List V} (hd : H d = some (.lst zs)) (e : EN d H H') (n : nlAll ds = true) (h : DpAll K H vs ds) : DpAll K H' vs ds := dpAll_nl (fun _ _ => sqT_enL hd e) _ _ n h
theorem Dice.lst {n : Nat} (h : Dice n H d) : ∃ zs, H d = some (.lst zs) := by
  obtain ⟨x, y, z, h, _⟩ := h
  exact ⟨_, h⟩
theorem DpA.length (h : DpAll K H vs ds) : vs.length = ds.length := by
  induction ds generalizing vs with
  | nil => cases h; rfl
  | cons d ds ih => cases h with | cons h k => rw [List.length_cons, List.length_cons, ih k]
theorem DpA.get (h : DpAll K H vs ds) {i : Nat} (e : vs[i]? = some v) : ∃ p, ds[i]? = some p ∧ Dp K H v p := by
  induction ds generalizing vs i with
  | nil => cases h; cases e
  | cons d ds ih =>
    cases h with
    | cons h k =>
      cases i with
      | zero => cases e; exact ⟨_, rfl, h⟩
      | succ i => exact ih k (by simpa using e)
theorem DpA.at (h : DpAll K H vs ds) {i : Nat} (e : ds[i]? = some p) : ∃ v, vs[i]? = some v ∧ Dp K H v p := by
  have hl := DpA.length h
  have li : i < vs.length := by rw [hl]; exact (List.getElem?_eq_some_iff.mp e).1
  obtain ⟨q, e1, e2⟩ := DpA.get h (List.getElem?_eq_getElem li)
  rw [e] at e1
  cases e1
  exact ⟨_, List.getElem?_eq_getElem li, e2⟩
theorem DpA.append {ws : List V} {es : List PyData} (h : DpAll K H vs ds) (k : DpAll K H ws es) : DpAll K H (vs ++ ws) (ds ++ es) := by
  induction ds generalizing vs with
  | nil => cases h; exact k
  | cons d ds ih => cases h with | cons h1 h2 => exact .cons h1 (ih h2)
theorem DpA.snoc (h : DpAll K H vs ds) (k : Dp K H v p) : DpAll K H (vs ++ [v]) (ds ++ [p]) := DpA.append h (.cons k .nil)
theorem DpA.drop (h : DpAll K H vs ds) (n : Nat) : DpAll K H (vs.drop n) (ds.drop n) := by
  induction n generalizing vs ds with
  | zero => exact h
  | succ n ih =>
    cases ds with
    | nil => cases h; exact .nil
    | cons d ds => cases h with | cons h1 h2 => exact ih h2
theorem DpA.take (h : DpAll K H vs ds) (n : Nat) : DpAll K H (vs.take n) (ds.take n) := by
  induction n generalizing vs ds with
  | zero => exact .nil
  | succ n ih =>
    cases ds with
    | nil => cases h; exact .nil
    | cons d ds => cases h with | cons h1 h2 => exact .cons h1 (ih h2)
theorem DpA.strs {xs : List Str} (h : DpAll K H vs (xs.map .str)) : vs = xs.map V.str := by
  induction xs generalizing vs with
  | nil => cases h; rfl
  | cons x xs ih =>
    cases h with
    | cons h1 h2 =>
      cases h1
      rw [ih h2]; rfl
end
/-! ### data compared -/
mutual
theorem eqv_refl : ∀ d : PyData, d.canLay0 = true → PyData.eqv d d = true
  | .none, _ => by simp [PyData.eqv]
  | .bool b, _ => by simp [PyData.eqv]
  | .int i, _ => by simp [PyData.eqv]
  | .str x, _ => by simp [PyData.eqv]
  | .list xs, h => by
    simp only [PyData.eqv]
    exact eqvAll_refl xs (by simpa only [PyData.canLay0] using h)
  | .tuple xs, h => by
    simp only [PyData.eqv]
    exact eqvAll_refl xs (by simpa only [PyData.canLay0] using h)
  | .dict _, h => by simp [PyData.canLay0] at h
theorem eqvAll_refl : ∀ ds : List PyData, PyData.canLayAll0 ds = true → PyData.eqvAll ds ds = true
  | [], _ => by simp [PyData.eqvAll]
  | d :: ds, h => by
    have h' : d.canLay0 = true ∧ PyData.canLayAll0 ds = true := by simpa [PyData.canLayAll0] using h
    simp only [PyData.eqvAll, eqv_refl d h'.1, eqvAll_refl ds h'.2, Bool.and_self]
end
section
variable {K : PySem.W.Frag} {H : Hp} {Q : VK} {a b : Addr} {vs ws : List V} {ds es : List PyData} {x y : Str}
theorem r_leZ (q : Q (.bl (!PySem.W.dataLt (.str y) (.str x))) H) : rCmpA K (fun i j => decide (i ≤ j)) (fun d e => !PySem.W.dataLt e d) (.str x) (.str y) H Q :=
  .inr ⟨.str x, .str y, .str x, .str y, by simp only [PySem.W.alike], (fun e => nomatch e), by simp only [PyData.depth]; decide, q⟩
theorem r_lenZ (h : x.length ≤ sizeLine) (q : Q (.int x.length) H) : rLenA K [V.str x] H Q := ⟨_, x.length, rfl, ⟨h, rfl⟩, q⟩
theorem r_neE {u v : V} {d e : PyData} (h1 : Dp K H u d) (h2 : Dp K H v e) (s1 : SeqAt.shaped d = true) (s2 : SeqAt.shaped e = true) (q : Q (.bl (!PyData.eqv d e)) H) : rNeA K u v H Q := .inr ⟨_, _, h1, h2, s1, s2, q⟩
theorem r_eqE {u v : V} {d e : PyData} (h1 : Dp K H u d) (h2 : Dp K H v e) (s1 : SeqAt.shaped d = true) (s2 : SeqAt.shaped e = true) (q : Q (.bl (PyData.eqv d e)) H) : rEqA K u v H Q := .inr ⟨_, _, h1, h2, s1, s2, q⟩
end
/-! ### texts walked -/
section
variable {σ : St} {H : Hp} {Q : VK} {K : PySem.W.Frag} {tt : TT} {te tl : TE} {vs : List Nat} {R : It → Hp → Prop} {j : Nat}
theorem r_iStr (h : tl σ H fun v H1 => ∃ x, v = .str x ∧ R (Its x) H1) : iStr tl σ H R := h
/-- each sign of a text gives a bool -/
theorem c_strB {z : Str} (f : Nat → Bool) (hz : z.cps.size < 16000000) (hw : ∀ x, wipe ((wipe σ vs).set j (some x)) vs = wipe σ vs)
    (turn : ∀ (c : Nat) H1 (q : VK) (N : Hp → Prop), c ∈ z.cps.toList → Ex H H1 → (∀ H4, Ex H1 H4 → q (.bl (f c)) H4) → tt ((wipe σ vs).set j (some (.str ⟨#[c]⟩))) H1 fun b H4 => if b = true then te ((wipe σ vs).set j (some (.str ⟨#[c]⟩))) H4 q else N H4)
    (done : ∀ L H', H L = none → Ex H H' → H' L = some (.lst ((z.cps.toList.map f).map V.bl)) → Q (.ref L) H') : CQ (gName j) tt te vs σ Q (Its z) H := by
  refine c_fn walk_str (fun i => z.cps.toList[i]?.bind fun c => some (V.bl (f c))) hz (fun _ _ => trivial) (fun i x H1 H2 q N hi e1 y hq hN => ?_) (fun L H' h1 h2 h3 => done L H' h1 h2 ?_)
  · obtain ⟨rfl, c, hc, rfl⟩ := y
    have hc' : z.cps.toList[i]? = some c := by rw [Array.getElem?_toList]; exact hc
    refine ⟨hw _, turn c H2 q N (List.mem_of_getElem? hc') e1 fun H4 e4 => hq _ H4 ?_ e4⟩
    rw [hc']; rfl
  · rw [← Array.length_toList, range_fm] at h3
    rw [h3, List.map_map]
    congr 2
    exact congrFun List.filterMap_eq_map _
/-- a bool of each item's data -/
theorem c_seqD {k : Sk} {a : Addr} {us : List V} {ds : List PyData} (h : k.at K H a us) (hd : DpAll K H us ds) (f : PyData → Bool) (hn : us.length < 16000000) (hw : ∀ x, wipe ((wipe σ vs).set j (some x)) vs = wipe σ vs)
    (turn : ∀ v p H1 (q : VK) (N : Hp → Prop), p ∈ ds → Dp K H1 v p → Ex H H1 → (∀ H4, Ex H1 H4 → q (.bl (f p)) H4) → tt ((wipe σ vs).set j (some v)) H1 fun b H4 => if b = true then te ((wipe σ vs).set j (some v)) H4 q else N H4)
    (done : ∀ L H', H L = none → Ex H H' → H' L = some (.lst ((ds.map f).map V.bl)) → Q (.ref L) H') : sQ K (CQ (gName j) tt te vs σ Q) (.ref a) H := by
  refine s_S h (c_fn walk_S (fun i => ds[i]?.bind fun p => some (V.bl (f p))) hn (fun H' e => k.ex e h) (fun i x H1 H2 q N hi e1 y hq hN => ?_) (fun L H' h1 h2 h3 => done L H' h1 h2 ?_))
  · obtain ⟨rfl, hx⟩ := y
    obtain ⟨p, hp, dp⟩ := DpA.get hd hx
    refine ⟨hw _, turn x p H2 q N (List.mem_of_getElem? hp) (Dp.ex e1 dp) e1 fun H4 e4 => hq _ H4 ?_ e4⟩
    rw [hp]; rfl
  · rw [DpA.length hd, range_fm] at h3
    rw [h3, List.map_map]
    congr 2
    exact congrFun List.filterMap_eq_map _
/-- a bool of each pair of two walks -/
theorem c_zipD {k1 k2 : Sk} {a b : Addr} {us ws : List V} {ds es : List PyData} {l : Nat} (h1 : k1.at K H a us) (h2 : k2.at K H b ws) (d1 : DpAll K H us ds) (d2 : DpAll K H ws es) (f : PyData → PyData → Bool) (hn : us.length < 16000000)
    (hw : ∀ x y, wipe (((wipe σ vs).set j (some x)).set l (some y)) vs = wipe σ vs)
    (turn : ∀ u v p q T H1 (Q1 : VK) (N : Hp → Prop), p ∈ ds → q ∈ es → Dp K H1 u p → Dp K H1 v q → Ex H H1 → H1 T = none → (∀ H4, Ex H1 H4 → Q1 (.bl (f p q)) H4) →
      tt (((wipe σ vs).set j (some u)).set l (some v)) (upd H1 T (.tup [u, v])) fun b H4 => if b = true then te (((wipe σ vs).set j (some u)).set l (some v)) H4 Q1 else N H4)
    (done : ∀ L H', H L = none → Ex H H' → H' L = some (.lst (((ds.zip es).map fun p => f p.1 p.2).map V.bl)) → Q (.ref L) H') : zQ K (CQ (gTup K 2 (gCons (gName j) (gCons (gName l) gNil))) tt te vs σ Q) [.ref a, .ref b] H := by
  have l1 := DpA.length d1
  have l2 := DpA.length d2
  have hz : (ds.zip es).length = min us.length ws.length := by rw [List.length_zip, l1, l2]
  refine z_P h1 h2 (c_fn (walk_P (n := (ds.zip es).length) hz) (fun i => (ds.zip es)[i]?.bind fun z => some (V.bl (f z.1 z.2))) (by omega) (fun H' e => ⟨k1.ex e h1, k2.ex e h2⟩) (fun i x H1 H2 q N hi e1 y hq hN => ?_) (fun L H' h1 h2 h3 => done L H' h1 h2 ?_))
  · obtain ⟨T, u, v, e2, e3, e4, e5, e6⟩ := y
    subst e2 e4
    obtain ⟨p, hp, dp⟩ := DpA.get d1 e5
    obtain ⟨p2, hp2, dp2⟩ := DpA.get d2 e6
    have ez : (ds.zip es)[i]? = some (p, p2) := by
      rw [List.getElem?_zip_eq_some]
      exact ⟨hp, hp2⟩
    exact g_two ⟨hw u v, turn u v p p2 T H1 q N (List.mem_of_getElem? hp) (List.mem_of_getElem? hp2) (Dp.ex e1 dp) (Dp.ex e1 dp2) e1 e3 fun H4 e8 => hq _ H4 (by rw [ez]; rfl) e8⟩
  · rw [range_fm] at h3
    rw [h3, List.map_map]
    congr 2
    exact congrFun List.filterMap_eq_map _
/-- a list of drawn data -/
theorem c_diceD {F : PyData → Prop} (hF : ∀ p, F p → nl p = true) {n N m : Nat} {lo : Int} {d : Addr} (hd : Dice n H d) (hm : m < 16000000) (hw : ∀ x, wipe ((wipe σ vs).set j (some x)) vs = wipe σ vs)
    (turn : ∀ (i : Nat) H1 (q : VK) (M : Hp → Prop), i < m → ExB d H H1 → Dice (n + i * N) H1 d → (∀ v p H4, Dp K H4 v p → F p → ExB d H1 H4 → Dice (n + i * N + N) H4 d → q v H4) →
      tt ((wipe σ vs).set j (some (.int (lo + i)))) H1 fun b H4 => if b = true then te ((wipe σ vs).set j (some (.int (lo + i)))) H4 q else M H4)
    (done : ∀ L H' us ps, H L = none → L ≠ d → ExB d H H' → H' L = some (.lst us) → DpAll K H' us ps → ps.length = m → (∀ p ∈ ps, F p) → Dice (n + m * N) H' d → Q (.ref L) H') : CQ (gName j) tt te vs σ Q (Itr lo m) H := by
  intro L hL
  have ne : L ≠ d := hd.ne hL
  refine lc_it walk_range (fun i H' => ∃ us ps, ExB d H H' ∧ H' L = some (.lst us) ∧ DpAll K H' us ps ∧ ps.length = i ∧ (∀ p ∈ ps, F p) ∧ Dice (n + i * N) H' d) ⟨[], [], ExB.of (Ex.new hL), upd_same, .nil, rfl, (fun x hx => nomatch hx), by rw [Nat.zero_mul]; exact hd.ex (Ex.new hL)⟩ (fun _ _ _ _ => trivial) ?_ ?_
  · rintro i x H1 H2 hi ⟨us, ps, e1, e2, e3, e4, e5, e6⟩ ⟨rfl, rfl⟩
    refine ⟨hw _, turn i H2 _ _ hi e1 e6 fun v p H4 dp fp e7 e8 => ?_⟩
    have hL4 : H4 L = some (.lst us) := e7 _ _ ne e2
    obtain ⟨zs, hz⟩ := e6.lst
    have nps : nlAll ps = true := (nlAll_iff ps).mpr fun p hp => hF p (e5 p hp)
    have all4 : DpAll K H4 us ps := DpA.en hz (EN.b e7) nps e3
    have enL : EN L H4 (upd H4 L (.lst (us ++ [v]))) := fun b o nb hb _ => (upd_ne nb).trans hb
    refine ⟨us, hL4, by rw [DpA.length e3]; exact Nat.lt_trans (by omega : ps.length < 16000000) (by decide), us ++ [v], ps ++ [p], ?_, upd_same, DpA.en hL4 enL (by rw [nlAll_iff]; intro q hq; rcases List.mem_append.mp hq with hq | hq; exact hF q (e5 q hq); rw [List.mem_singleton.mp hq]; exact hF p fp) (DpA.snoc all4 dp), by rw [List.length_append, e4]; rfl, ?_, ?_⟩
    · intro b o hb ho
      have hne : b ≠ L := fun z => by rw [z, hL] at ho; cases ho
      exact (upd_ne hne).trans (e7 _ _ hb (e1 b o hb ho))
    · intro q hq
      rcases List.mem_append.mp hq with hq | hq
      · exact e5 q hq
      · rw [List.mem_singleton.mp hq]; exact fp
    · obtain ⟨x, y, z, h, r1, r2, r3, r4, r5⟩ := e8
      refine ⟨x, y, z, (upd_ne (Ne.symm ne)).trans h, r1, r2, r3, r4, ?_⟩
      rw [Nat.add_mul]; omega
  · rintro H' ⟨us, ps, e1, e2, e3, e4, e5, e6⟩
    exact done L H' us ps hL ne e1 e2 e3 e4 e5 e6
end
/-! ### texts joined, repeated -/
section
variable {X : Cx} {K : PySem.W.Frag}
def rJoin (K : PySem.W.Frag) : V → List V → Hp → VK → Prop := fun x xs H Q => ∃ a p, ∃ ys : List Str, x = .str a ∧ xs = [.ref p] ∧ (SqL K H p (ys.map V.str) ∨ SqT K H p (ys.map V.str)) ∧
      (ys.map (·.length)).sum + ys.length * a.length ≤ 16777216 ∧ Q (.str (Txt.join a ys)) H
theorem k_join {o e : Expr} {to te : TE} {apos pos : Pos} (eK : X.K = K) (ho : PE X o to) (he : PE X e te) (hs : starEach [e] X.env = [(false, eval e X.env)] := by rfl) (hbase : attributeBase o "join" X.env (eval o X.env) = eval o X.env := by rfl) (hline : (apos.endLine == pos.line) = true := by rfl) :
    PE X (.Call (.Attribute o "join" apos) [e] [] pos) (tM1 (rJoin K) to te) := by
  subst eK
  exact pe_join ho he hs hbase hline
theorem r_m1 {r : V → List V → Hp → VK → Prop} {to te : TE} {σ : St} {H : Hp} {Q : VK} (h : to σ H fun x H1 => (∃ a, x = .str a) ∧ te σ H1 fun y H2 => r x [y] H2 Q) : tM1 r to te σ H Q := h
def rMulZ : R2 := fun x y H Q => ∃ (z : Str) (n : Int), x = .str z ∧ y = .int n ∧ 2 ≤ n ∧ n ≤ 1000 ∧ 1 ≤ z.length ∧ z.length ≤ 1000 ∧ Q (.str ⟨(List.replicate n.toNat z.cps).foldl (· ++ ·) #[]⟩) H
theorem op_mulZ : OpR X (binaryOp .Mult) rMulZ := by
  intro pins s σ H x y v u Q I rx ry h
  obtain ⟨z, n, rfl, rfl, h1, h2, h3, h4, q⟩ := h
  obtain ⟨t, rfl⟩ := rx
  obtain ⟨t2, rfl⟩ := ry
  have hb : (z.length : Int) * n ≤ 1000000 := by
    have a1 : (z.length : Int) * n ≤ 1000 * n := Int.mul_le_mul_of_nonneg_right (by omega) (by omega)
    omega
  have hc : z.length * n.toNat ≤ 1000000 := by
    have a1 : z.length * n.toNat ≤ 1000 * n.toNat := Nat.mul_le_mul_right _ h4
    omega
  have big : 1000000 ≤ sizeLine := by decide
  refine PySem.P.mul_str (by rw [decide_eq_false (by omega), decide_eq_false (by omega)]; rfl) (fun _ _ => ?_) (fun _ _ => decide_eq_false (by show ¬ z.length * n.toNat > sizeLine; omega)) ?_
  · refine Int.not_lt.mpr ?_
    rw [Int.le_ediv_iff_mul_le (by omega)]
    omega
  · rw [if_neg (by omega), if_neg (by
      rw [Bool.or_eq_true, beq_iff_eq, beq_iff_eq]
      omega)]
    refine ⟨?_, .str _, H, I.tok _, ⟨_, rfl⟩, q⟩
    exact fits_reps (decide_eq_false (by show ¬ z.length * n.toNat > sizeLine; omega))
end
end PB

/-! PT: keyword calls of defs that know their guards; repr of data; rows of ints compared. -/
namespace PB
open PySem PySem.Spec L2
open PyProof.Rows hiding St
def CalKG (P : Program) (w : World) (K : PySem.W.Frag) (mg : Str → Option Value) (base : Heap) (k : Nat) (x : Str) (ks : List Str) (sp : Sp) (gV : List V → List V) : Prop :=
  ∃ f fd ps g, mg x = some (.ref f) ∧ PySem.W.keepIn K (.ref f) = true ∧ FnG P w K mg base k f fd ps sp ∧ KBn K fd ps 0 ks g (fun _ zs => gV zs)
theorem pe_kw0G {X : Cx} {k j : Nat} {x : Str} {ks : List Str} {sp : Sp} {gV : List V → List V} {E : XK} {p pos : Pos} {kws : List Keyword} {tk : TA} (c : CalKG X.prog X.w X.K X.mg X.base k x ks sp gV) (gd : X.A.guards = some []) (hr : Room j X.A) (hk : k ≤ j) (hx : Passes (L2.CX X.prog X.w) X E) (hkw : PK X kws tk)
    (hg : Gl X x := by rfl) (hall : (backToKw pos (keywordEach kws X.env)).all (·.1.isSome) = true := by rfl) (hks : (backToKw pos (keywordEach kws X.env)).filterMap (·.1) = ks := by rfl) (hdb : (x == ("__debug__" : Str)) = false := by decide)
    (hpl : ((backTo pos (starEach [] X.env)).any (·.1) || (backToKw pos (keywordEach kws X.env)).any (·.1.isNone)) = false := by rfl) : PE X (.Call (.Name x p) [] kws pos) (fun σ H Q => tk σ H fun zs H1 => zs.length = ks.length ∧ sp (gV zs) H1 Q E) := by
  obtain ⟨f, fd, ps, g, h1, h2, F, b⟩ := c
  refine ⟨fun pins s σ H Q I h => wpAny_Call_Name_kw (ld_glob I hg h1 ?_ hdb)⟩
  refine PySem.W.callWith_KW0 (h₀ := X.base) I.ok.mod.kin h2 hall (thn (hkw.run pos pins s σ H _ I h) fun ws s2 ⟨zs, H2, I2, rz, l2, q2⟩ => ⟨I2.kIn, ?_⟩) hpl
  rw [hks]
  refine wpAny_call (codeAny_mono (F.run X.A X.stack s2 H2 ⟨[], ks.zip ws⟩ (g [] ws) (gV zs) Q E gd (hr.mono hk) I2.env0 (b.to s2 [] ws I2.kIn rfl (rz.length.symm.trans l2)) (b.rel .nil rz) q2) fun z s' hq => ?_)
  match z, hq with
  | .error er, hq => exact hx pins σ H2 s2 er s' I2 hq
  | .ok (.ret u), hq => exact I2.after hq
  | .ok .next, hq => exact hq.elim
  | .ok .brk, hq => exact hq.elim
  | .ok .cont, hq => exact hq.elim
section
variable {P : Program} {w : World} {fa : List He.Fa} {fn : List He.DefD} {K : PySem.W.Frag} {mg : Str → Option Value} {base : Heap}
theorem Ct.calKG (C : Ct fa fn K mg base) (i j : Nat) {x : Str} {a : Arguments} {b : List Stmt} {sc : Scope} (hd : fn[i]? = some ⟨(x, none), x, x, a, b, sc, [], []⟩) (hj : fa[j]? = some (.glo x)) {N ps ks : List Str} {k : Nat} {sp : Sp} {g : List Value → List Value} {gV : List V → List V} (S : FnScope N ps sc)
    (hrel : ∀ (zs : List V) (ws : List Value), Vals zs ws → Vals (gV zs) (g ws))
    (hb : ∀ (kV doc pm : Value) (an : Option Addr) (cdv ct : Value) (ws : List Value), ws.length = ks.length → bindArgs (PySem.W.fnOf x x a b sc .none kV doc pm an cdv ct) ⟨[], ks.zip ws⟩ = pure (ps.zip (g ws)))
    (len : ∀ vs H Q E, sp vs H Q E → vs.length = ps.length)
    (hbody : ∀ (f : Addr) (cdv : Value) (A : Around) (outer : List Env) (s : Shared) (H : Hp) (vs : List V) (Q : VK) (E : XK), (A.deeper (envOfC x sc s.heap.objs.size f cdv)).guards = some [] → Room k (A.deeper (envOfC x sc s.heap.objs.size f cdv)) → sp vs H Q E →
      ∃ t, PSs (cxOf (L2.CX P w) P w K mg base N x sc f cdv A outer s H E) b t ∧ t { nx := fun _ H' => Q .non H', rt := Q } (start N vs) H) : CalKG P w K mg base (k + 1) x ks sp gV := by
  obtain ⟨fd, F⟩ := C.says.def_ i hd
  have F0 := F
  obtain ⟨oc, od, dV, kV, doc, pm, an, cdv, ct, osl, rfl, lk, hcd, hD, hK⟩ := F.ex
  have dn : dV = .none := by
    rcases hD with ⟨_, e⟩ | ⟨e, _⟩
    · exact e
    · exact absurd rfl e
  subst dn
  refine ⟨_, _, ps, fun _ ws => g ws, He.glo_ok C.kin C.glob (C.says.fact j hj), F.kp, fnG_of F0 S len fun cdv A outer s H vs Q E hg hr h => hbody _ cdv A outer s H vs Q E hg hr h, ⟨fun s us ws _ l1 l2 => ?_, fun _ r => hrel _ _ r⟩⟩
  obtain rfl := List.length_eq_zero_iff.mp l1
  exact .of_eq (hb kV doc pm an cdv ct ws l2)
end
/-- what can be shown -/
structure Shw (p : PyData) : Prop where
  s1 : p.showable = true
  s2 : p.hasDict = false
  s3 : p.shown.length ≤ sizeLine
  s4 : p.depth ≤ 60
theorem r_reprD {K : PySem.W.Frag} {H : Hp} {v : V} {p : PyData} {xs : List PyData} {Q : VK} (h : Dp K H v p) (e : p = .tuple xs) (s : Shw p) (q : Q (.str p.shown) H) : rRepr K [v] H Q := by
  subst e
  cases h with
  | tup h1 h2 => exact ⟨_, _, rfl, .tup h1 h2, s.s1, s.s2, s.s3, s.s4, q⟩
section
variable {K : PySem.W.Frag} {H : Hp} {Q : VK} {a b : Addr} {ns ms : List Int} {vs ws : List V} {rs ss : List (List Int)}
theorem r_gtTT (h1 : SqT K H a (ns.map V.int)) (h2 : SqT K H b (ms.map V.int)) (q : Q (.bl (decide (ms < ns))) H) : rCmpA K (fun i j => decide (j < i)) (fun d e => PySem.W.dataLt e d) (.ref a) (.ref b) H Q :=
  .inr ⟨_, _, dp_t h1, dp_t h2, by simp only [PySem.W.alike]; exact ali_I ns ms, (fun e => nomatch e), by rw [dep_t, dep_t]; decide, by rw [← lt_T] at q; exact q⟩
theorem canLay_R (rs : List (List Int)) : PyData.canLay0 (.list (rs.map fun r => .tuple (dI r))) = true := by
  simp only [PyData.canLay0]
  exact lay_R rs
theorem r_neRR (h1 : SqL K H a vs) (h2 : SqL K H b ws) (r1 : Rws K H vs rs) (r2 : Rws K H ws rs) (q : Q (.bl false) H) : rNeA K (.ref a) (.ref b) H Q :=
  .inr ⟨_, _, .lst h1 r1.dp, .lst h2 r2.dp, sh_R, sh_R, by rw [eqv_refl _ (canLay_R rs)]; exact q⟩
end
/-- an item by any index -/
theorem r_ixM {K : PySem.W.Frag} {H : Hp} {Q : VK} {a : Addr} {xs : List V} {k : Sk} {i : Int} {v : V} (h : k.at K H a xs) (e : atI xs i = some v) (q : Q v H) : rIxA K (.ref a) (.int i) H Q := by
  cases k with
  | l => exact .inl ⟨a, xs, i, v, rfl, rfl, h, e, q⟩
  | t => exact .inr (.inl ⟨a, xs, i, v, rfl, rfl, h, e, q⟩)
theorem r_cut {t u : TS} {D : Ends} {σ : St} {H : Hp} (Mid : St → Hp → Prop) (h : t { D with nx := Mid } σ H) (k : ∀ σ' H', Mid σ' H' → u D σ' H') : C8.tCut t u D σ H := ⟨Mid, h, k⟩
theorem cut_m1 {xs : List V} : cutV xs none (some (-1)) = xs.take (xs.length - 1) := by
  unfold cutV
  rw [HT.sIx_none, Nat.sub_zero, List.drop_zero]
  congr 1
  show (if (-1 : Int) < 0 then ((-1 : Int) + (xs.length : Int)).toNat else min (-1 : Int).toNat xs.length) = _
  rw [if_pos (by decide)]
  omega
theorem cut_from {xs : List V} {i : Nat} : cutV xs (some (i : Int)) none = xs.drop i := cut_hi
/-- a list of rows, one of each item -/
theorem c_seqR {σ : St} {H : Hp} {Q : VK} {K : PySem.W.Frag} {tt : TT} {te : TE} {vs : List Nat} {j : Nat} {k : Sk} {a : Addr} {us : List V} (h : k.at K H a us) (f : Nat → List Int) (hn : us.length < 16000000) (hw : ∀ x, wipe ((wipe σ vs).set j (some x)) vs = wipe σ vs)
    (turn : ∀ (i : Nat) v H1 (q : VK) (N : Hp → Prop), us[i]? = some v → Ex H H1 → (∀ w H4, Ex H1 H4 → Row K H4 w (f i) → q w H4) → tt ((wipe σ vs).set j (some v)) H1 fun b H4 => if b = true then te ((wipe σ vs).set j (some v)) H4 q else N H4)
    (done : ∀ L H' ws, H L = none → Ex H H' → H' L = some (.lst ws) → Rws K H' ws ((List.range us.length).map f) → Q (.ref L) H') : sQ K (CQ (gName j) tt te vs σ Q) (.ref a) H := by
  refine s_S h (c_it walk_S hn (fun H' e => k.ex e h) (fun i acc H' => Rws K H' acc ((List.range i).map f)) (fun _ _ => .nil) (fun L i acc H1 u u' hL _ p => p.put hL) ?_ ?_)
  · rintro i x acc H1 H2 q N hi e1 p ⟨rfl, hx⟩ hq hN
    refine ⟨hw x, turn i x H2 q N hx e1 fun w H4 e4 row => hq w H4 e4 ?_⟩
    rw [List.range_succ, List.map_append]
    exact (p.ex e4).snoc row
  · intro L acc H' h1 h2 h3 _ h5
    exact done L H' acc h1 h2 h3 h5
end PB
namespace K42
open PySem PySem.Spec PyProof.Rows L2
def top (i : Nat) : Stmt := PySem.Challenge.pw_promisedpost_k42_logs.main.body.getD i (.Pass ⟨0, 0, 0, 0⟩)
def inn (i j : Nat) : Stmt := match top i with
  | .ClassDef (body := b) .. => b.getD j (.Pass ⟨0, 0, 0, 0⟩)
  | s => s
def dd (x : Str) (i : Nat) : He.DefD := ⟨(x, none), x, x, defArgs (top i), defBody (top i), defScope (top i), [], []⟩
def dk (x : Str) (i : Nat) (kw : List (Str × He.Dv)) : He.DefD := ⟨(x, none), x, x, defArgs (top i), defBody (top i), defScope (top i), [], kw⟩
def fn : List He.DefD := [dd "is_integer" 8, dd "is_number" 9, dd "is_in" 10, dd "is_text" 11, dd "is_tuple_of" 12, dd "is_plain_within" 13, dd "is_plain" 14, dd "demand" 15, dd "is_entry" 19, dd "is_log" 20, dd "common_of" 21, dd "common" 22, dd "last_in" 23, dd "last_of" 24, dd "is_better" 25, dd "copied_of" 26, dd "copied" 27, dd "_law_dice" 29, dd "_law_roll" 30, dd "_law_pick" 31, dd "_law_plain" 32, dd "_law_refused" 33, dd "_law_log" 34, dd "_law_near" 35, dd "_law_same" 36, dd "_law_right" 37, dd "law" 38]
def fa : List He.Fa := [.glo "is_integer", .glo "is_number", .glo "is_in", .glo "is_text", .glo "is_tuple_of", .glo "is_plain_within", .glo "is_plain", .glo "demand", .glo "is_entry", .glo "is_log", .glo "common_of", .glo "common", .glo "last_in", .glo "last_of", .glo "is_better", .glo "copied_of", .glo "copied", .glo "_law_dice", .glo "_law_roll", .glo "_law_pick", .glo "_law_plain", .glo "_law_refused", .glo "_law_log", .glo "_law_near", .glo "_law_same", .glo "_law_right", .glo "law", .free "ValueError", .free "isinstance", .free "str", .free "all", .free "enumerate", .free "min", .free "tuple", .free "range", .free "zip", .free "int", .free "bool", .free "len", .free "list", .free "max", .free "repr", .free "abs", .free "super", .int "MOST_NUMBER" (1000000000000000000000000000000), .int "MOST_TEXT" (60), .int "MOST_PARTS" (30), .int "MOST_DEEP" (8), .int "MOST_ENTRIES" (600), .int "MOST_TERM" (1000000000)]
def ini : List PB.IniD := [⟨"BadArgument", "name", defArgs (inn 2 0), defBody (inn 2 0), defScope (inn 2 0)⟩]
def tf : List He.Defn := [("_law_right", none)]
def ex (K : PySem.W.Frag) : Bool := ini.all (PB.iniB PySem.Challenge.pw_promisedpost_k42_logs K)
abbrev R : PySem.W.OpenRow := PySem.W.OpenLaw.row PySem.Challenge.rw_promisedpost_k42_logs
abbrev qv : PySem.Program := PySem.W.view R.prog [38]
def names : List PySem.Str := (["PostError", "BadArgument", "MOST_NUMBER", "MOST_TEXT", "MOST_PARTS", "MOST_DEEP", "is_integer", "is_number", "is_in", "is_text", "is_tuple_of", "is_plain_within", "is_plain", "demand", "MOST_ENTRIES", "MOST_TERM", "is_entry", "is_log", "common_of", "common"] : List PySem.Str) ++ (["last_in", "last_of", "is_better", "copied_of", "copied", "_law_dice", "_law_roll", "_law_pick", "_law_plain", "_law_refused", "_law_log", "_law_near", "_law_same", "_law_right", "__name__"] : List PySem.Str)
abbrev hk : PySem.W.Hook := PB.hookI 5 fa fn [] tf ini ex
def ob (s : PySem.W.SharedT) : PB.AlI := PB.obsI 5 fa fn [] tf ini ex (HandSHeadRun.getT s)
theorem ob_eq (s : PySem.W.SharedT) : ob s = hk.obs s.abs := PB.obsI_eq (HandSHeadRun.getT_eq s)
theorem run (w : World) : HandSHeadRun.RunEq R qv hk ob 4000 names w := by
  intro os
  kernel_rfl
end K42

section
open PySem PySem.Spec L2 PB
open PyProof.Rows hiding St
local macro_rules | `(tactic| walk_at "ex") => `(tactic| first
  | with_reducible exact Ex.refl _
  | assumption
  | (with_reducible refine Ex.add ?_ (by assumption); walk_at "ex")
  | (with_reducible refine Ex.trans ?_ (by assumption); walk_at "ex"))
local macro_rules | `(tactic| walk_at "hl") => `(tactic| first
  | assumption
  | with_reducible exact sqL_new
  | with_reducible exact sqT_new
  | with_reducible exact upd_same
  | (with_reducible refine sqL_up (by assumption) ?_; walk_at "hl")
  | (with_reducible refine sqT_up (by assumption) ?_; walk_at "hl")
  | (with_reducible refine at_up (by assumption) ?_; walk_at "hl")
  | (with_reducible refine sqL_ex (by assumption) ?_; walk_at "hl")
  | (with_reducible refine sqT_ex (by assumption) ?_; walk_at "hl")
  | (with_reducible refine at_ex (by assumption) ?_; walk_at "hl"))
local macro_rules | `(tactic| walk_at "rd") => `(tactic| first
  | with_reducible refine r_var (by first | rfl | with_unfolding_all rfl) ?_
  | with_reducible refine r_c ?_
  | with_reducible refine r_op ?_
  | with_reducible refine r_cons ?_
  | with_reducible refine r_nil ?_
  | with_reducible refine r_seq ?_
  | with_reducible refine r_set ?_
  | with_reducible refine r_next ?_
  | with_reducible refine r_brk ?_
  | with_reducible refine r_cont ?_
  | with_reducible refine r_ret ?_
  | with_reducible refine r_ifS ?_
  | with_reducible refine r_test ?_
  | with_reducible refine r_B ?_
  | with_reducible refine r_bl ?_
  | with_reducible refine r_andV ?_
  | with_reducible refine r_orV ?_
  | with_reducible refine r_notV ?_
  | with_reducible refine r_and ?_
  | with_reducible refine r_or ?_
  | with_reducible refine r_not ?_
  | with_reducible refine r_if ?_
  | with_reducible refine r_chain ?_
  | with_reducible refine r_callB ?_
  | with_reducible refine r_call ?_
  | with_reducible refine r_addI ?_
  | with_reducible refine r_cmpI ?_
  | with_reducible refine r_eqI ?_
  | with_reducible refine r_neI ?_
  | with_reducible refine r_I0 ?_
  | with_reducible refine r_max2 ?_
  | with_reducible refine r_min2 ?_
  | with_reducible refine r_int1 ?_
  | with_reducible refine r_for ?_
  | with_reducible refine r_lc ?_
  | with_reducible refine r_iSeq ?_
  | with_reducible refine r_iZip ?_
  | with_reducible refine r_iEnum ?_
  | with_reducible refine r_iRng1 ?_
  | with_reducible refine r_iRng2 ?_
  | with_reducible refine r_truB ?_
  | with_reducible refine r_yes ?_
  | with_reducible refine r_tru ?_
  | with_reducible refine r_bm ?_
  | with_reducible refine r_asg ?_
  | with_reducible refine r_gname ?_
  | with_reducible refine r_drop ?_
  | with_reducible refine r_rais ?_
  | with_reducible refine r_aug (by first | rfl | with_unfolding_all rfl) ?_
  | with_reducible refine r_augS ?_
  | with_reducible refine r_ipI ?_
  | with_reducible refine r_gsub ?_
  | with_reducible refine r_sl ?_
  | with_reducible refine r_part ?_
  | with_reducible refine r_nopart ?_
  | with_reducible refine r_parI ?_
  | with_reducible refine r_tup ?_
  | with_reducible refine r_lst ?_
  | with_reducible refine r_par ?_
  | with_reducible refine r_pQ ?_
  | with_reducible refine r_un ?_
  | with_reducible refine r_U ?_
  | ((with_reducible refine r_T ?_ ?_); focus rfl)
  | ((with_reducible refine r_F ?_ ?_); focus rfl))
local macro_rules | `(tactic| walk_at "rq") => `(tactic| first
  | with_reducible refine r_var (by first | rfl | with_unfolding_all rfl) ?_
  | with_reducible refine r_c ?_
  | with_reducible refine r_op ?_
  | with_reducible refine r_cons ?_
  | with_reducible refine r_nil ?_
  | with_reducible refine r_seq ?_
  | with_reducible refine r_set ?_
  | with_reducible refine r_next ?_
  | with_reducible refine r_brk ?_
  | with_reducible refine r_cont ?_
  | with_reducible refine r_ret ?_
  | with_reducible refine r_test ?_
  | with_reducible refine r_B ?_
  | with_reducible refine r_bl ?_
  | with_reducible refine r_andV ?_
  | with_reducible refine r_orV ?_
  | with_reducible refine r_notV ?_
  | with_reducible refine r_and ?_
  | with_reducible refine r_or ?_
  | with_reducible refine r_not ?_
  | with_reducible refine r_if ?_
  | with_reducible refine r_chain ?_
  | with_reducible refine r_callB ?_
  | with_reducible refine r_call ?_
  | with_reducible refine r_addI ?_
  | with_reducible refine r_cmpI ?_
  | with_reducible refine r_eqI ?_
  | with_reducible refine r_neI ?_
  | with_reducible refine r_I0 ?_
  | with_reducible refine r_max2 ?_
  | with_reducible refine r_min2 ?_
  | with_reducible refine r_int1 ?_
  | with_reducible refine r_for ?_
  | with_reducible refine r_lc ?_
  | with_reducible refine r_iSeq ?_
  | with_reducible refine r_iZip ?_
  | with_reducible refine r_iEnum ?_
  | with_reducible refine r_iRng1 ?_
  | with_reducible refine r_iRng2 ?_
  | with_reducible refine r_truB ?_
  | with_reducible refine r_yes ?_
  | with_reducible refine r_tru ?_
  | with_reducible refine r_bm ?_
  | with_reducible refine r_asg ?_
  | with_reducible refine r_gname ?_
  | with_reducible refine r_drop ?_
  | with_reducible refine r_rais ?_
  | with_reducible refine r_aug (by first | rfl | with_unfolding_all rfl) ?_
  | with_reducible refine r_augS ?_
  | with_reducible refine r_ipI ?_
  | with_reducible refine r_gsub ?_
  | with_reducible refine r_sl ?_
  | with_reducible refine r_part ?_
  | with_reducible refine r_nopart ?_
  | with_reducible refine r_parI ?_
  | with_reducible refine r_tup ?_
  | with_reducible refine r_lst ?_
  | with_reducible refine r_par ?_
  | with_reducible refine r_pQ ?_
  | with_reducible refine r_un ?_
  | with_reducible refine r_U ?_
  | ((with_reducible refine r_T ?_ ?_); focus rfl)
  | ((with_reducible refine r_F ?_ ?_); focus rfl))

local macro_rules | `(tactic| walk_at "rd") => `(tactic| first
  | with_reducible refine r_m1 ?_
  | with_reducible refine r_iStr ?_
  | with_reducible refine r_iEZ ?_
  | with_reducible refine r_eqZ ?_
  | with_reducible refine r_neZ ?_)
namespace K42
abbrev Cx0 := Ct fa fn
section
variable {P : Program} {w : World} {K : PySem.W.Frag} {mg : Str → Option Value} {base : Heap}
abbrev s_is_integer : Stmt := top 8
theorem sc_is_integer : FnScope ["value"] ["value"] (defScope s_is_integer) := ⟨rfl, rfl, rfl, by decide +kernel, rfl, by decide +kernel, by decide +kernel⟩
def sp_is_integer (K : PySem.W.Frag) : Sp := fun vs H Q _ => ∃ v T, vs = [v] ∧ IsTy K H v T ∧ Q (.bl (isIntV v)) H
theorem ok_is_integer (C : Cx0 K mg base) : Cal P w K mg base 1 "is_integer" ["value"] (sp_is_integer K) := by
  refine C.cal 0 0 rfl rfl sc_is_integer (fun _ _ _ _ _ _ us hl => match us, hl with | [_], _ => rfl) (fun vs H Q E h => ?_) (fun f cdv A outer s H vs Q E hr h => ⟨_, PSs.nox
    (pss_one (ps_ret (pe_and (pe_bi (k_isi (K := K) rfl) (C.free 28) (by decide +kernel) (pa_cons (pv 0) (pa_cons (pe_ty "int" (C.free 36)) pa_nil))) (pe_one (pe_not (pe_bi (k_isi (K := K) rfl) (C.free 28) (by decide +kernel) (pa_cons (pv 0) (pa_cons (pe_ty "bool" (C.free 37)) pa_nil)))))))), ?_⟩)
  · obtain ⟨v, T, rfl, _⟩ := h
    rfl
  · obtain ⟨v, T, rfl, ty, k⟩ := h
    repeat walk_at "rd"
    rcases ty.cases with ⟨rfl, rfl⟩ | ⟨b, rfl, rfl⟩ | ⟨i, rfl, rfl⟩ | ⟨x, rfl, rfl⟩ | ⟨a, rfl, ht⟩
    · exact r_isi (b := false) ty rfl ⟨false, rfl, k⟩
    · refine r_isi (b := true) ty rfl ⟨true, rfl, ?_⟩
      repeat walk_at "rd"
      exact r_isi (b := true) ty rfl ⟨true, rfl, k⟩
    · refine r_isi (b := true) ty rfl ⟨true, rfl, ?_⟩
      repeat walk_at "rd"
      exact r_isi (b := false) ty rfl ⟨false, rfl, k⟩
    · exact r_isi (b := false) ty rfl ⟨false, rfl, k⟩
    · simp only [List.mem_cons, List.not_mem_nil, or_false] at ht
      rcases ht with rfl | rfl | rfl <;> exact r_isi (b := false) ty rfl ⟨false, rfl, k⟩
abbrev s_is_in : Stmt := top 10
theorem sc_is_in : FnScope ["value", "low", "high"] ["value", "low", "high"] (defScope s_is_in) := ⟨rfl, rfl, rfl, by decide +kernel, rfl, by decide +kernel, by decide +kernel⟩
def inB (lo hi : Int) : V → Bool
  | .int i => decide (lo ≤ i) && decide (i ≤ hi)
  | _ => false
theorem inB_yes {lo hi i : Int} (h1 : lo ≤ i) (h2 : i ≤ hi) : inB lo hi (.int i) = true := by
  show (decide (lo ≤ i) && decide (i ≤ hi)) = _
  rw [decide_eq_true h1, decide_eq_true h2]; rfl
theorem inB_int {lo hi i : Int} : inB lo hi (.int i) = true ↔ lo ≤ i ∧ i ≤ hi := by
  show (decide (lo ≤ i) && decide (i ≤ hi)) = true ↔ _
  rw [Bool.and_eq_true, decide_eq_true_eq, decide_eq_true_eq]
def sp_is_in (K : PySem.W.Frag) : Sp := fun vs H Q _ => ∃ v T lo hi, vs = [v, .int lo, .int hi] ∧ IsTy K H v T ∧ Q (.bl (inB lo hi v)) H
theorem ok_is_in (C : Cx0 K mg base) : Cal P w K mg base 2 "is_in" ["value", "low", "high"] (sp_is_in K) := by
  have c_is_integer := ok_is_integer (P := P) (w := w) C
  refine C.cal 2 2 rfl rfl sc_is_in (fun _ _ _ _ _ _ us hl => match us, hl with | [_, _, _], _ => rfl) (fun vs H Q E h => ?_) (fun f cdv A outer s H vs Q E hr h => ⟨_, PSs.nox
    (pss_one (ps_ret (pe_and (pe_f c_is_integer hr (by first | decide | omega) passL (pa_cons (pv 0) pa_nil)) (pe_one (pe_chain (k_le (K := K) rfl hr) (k_le (K := K) rfl hr) (pv 1) (pv 0) (pv 2)))))), ?_⟩)
  · obtain ⟨v, T, lo, hi, rfl, _⟩ := h
    rfl
  · obtain ⟨v, T, lo, hi, rfl, ty, k⟩ := h
    repeat walk_at "rd"
    refine ⟨v, T, rfl, ty, ?_⟩
    cases v with
    | int i =>
      repeat walk_at "rd"
      by_cases c : lo ≤ i
      · refine r_T (decide_eq_true c) ?_
        repeat walk_at "rd"
        have e : inB lo hi (.int i) = decide (i ≤ hi) := by
          show (decide (lo ≤ i) && decide (i ≤ hi)) = _
          rw [decide_eq_true c, Bool.true_and]
        rw [e] at k
        exact k
      · refine r_F (decide_eq_false c) ?_
        have e : inB lo hi (.int i) = false := by
          show (decide (lo ≤ i) && decide (i ≤ hi)) = _
          rw [decide_eq_false c, Bool.false_and]
        rw [e] at k
        exact k
    | _ => exact ⟨false, rfl, k⟩
abbrev cBad (K : PySem.W.Frag) : Value := .ref (clsA K "BadArgument")
/-- what a refusal of this name leaves -/
def Refuses (K : PySem.W.Frag) (n : Str) (H : Hp) (E : XK) : Prop := ∀ d H', H d = none → Ex H H' → H' d = some (.xd [("name", .str n)]) → E (cBad K) (some d) H'
theorem Refuses.ex {n : Str} {H H' : Hp} {E : XK} (h : Refuses K n H E) (e : Ex H H') : Refuses K n H' E := fun d H2 f e2 a => h d H2 (e.free f) (e.trans e2) a
abbrev OBad (P : Program) (w : World) (K : PySem.W.Frag) (mg : Str → Option Value) (base : Heap) : Prop := Own P w K mg base 1 "BadArgument" "name"
abbrev s_demand : Stmt := top 15
theorem sc_demand : FnScope ["is_good", "name"] ["is_good", "name"] (defScope s_demand) := ⟨rfl, rfl, rfl, by decide +kernel, rfl, by decide +kernel, by decide +kernel⟩
def sp_demand (K : PySem.W.Frag) : Sp := fun vs H Q E => ∃ b n, vs = [.bl b, .str n] ∧ (b = true → Q .non H) ∧ (b = false → Refuses K n H E)
theorem ok_demand (C : Cx0 K mg base) (o_BadArgument : OBad P w K mg base) : Cal P w K mg base 3 "demand" ["is_good", "name"] (sp_demand K) := by
  refine C.cal 7 7 rfl rfl sc_demand (fun _ _ _ _ _ _ us hl => match us, hl with | [_, _], _ => rfl) (fun vs H Q E h => ?_) (fun f cdv A outer s H vs Q E hr h => ⟨_,
    (pss_one (ps_if (pt_not (k_truth (K := K) rfl (pv 0) (by intro _; rfl))) (pss_one (ps_own (K := K) rfl o_BadArgument rfl (takes_of rfl rfl rfl rfl) hr (by decide) passL (pv 1))) pss_nil)), ?_⟩)
  · obtain ⟨b, n, rfl, _⟩ := h
    rfl
  · obtain ⟨b, n, rfl, k1, k2⟩ := h
    repeat walk_at "rd"
    cases b with
    | true =>
      repeat walk_at "rd"
      exact k1 rfl
    | false =>
      repeat walk_at "rd"
      exact r_mkQ fun d H' f e a => k2 rfl d H' f e a

theorem isT_tup (p : PyData) : isT (tyD p) "tuple" = (match p with | .tuple _ => true | _ => false) := by
  cases p with
  | none => exact (show isT "NoneType" "tuple" = false by decide)
  | bool => exact (show isT "bool" "tuple" = false by decide)
  | int => exact (show isT "int" "tuple" = false by decide)
  | str => exact (show isT "str" "tuple" = false by decide)
  | list => exact (show isT "list" "tuple" = false by decide)
  | tuple => exact (show isT "tuple" "tuple" = true by decide)
  | dict => exact (show isT "dict" "tuple" = false by decide)
theorem isT_str (p : PyData) : isT (tyD p) "str" = (match p with | .str _ => true | _ => false) := by
  cases p with
  | none => exact (show isT "NoneType" "str" = false by decide)
  | bool => exact (show isT "bool" "str" = false by decide)
  | int => exact (show isT "int" "str" = false by decide)
  | str => exact (show isT "str" "str" = true by decide)
  | list => exact (show isT "list" "str" = false by decide)
  | tuple => exact (show isT "tuple" "str" = false by decide)
  | dict => exact (show isT "dict" "str" = false by decide)
theorem isT_bool (p : PyData) : isT (tyD p) "bool" = (match p with | .bool _ => true | _ => false) := by
  cases p with
  | none => exact (show isT "NoneType" "bool" = false by decide)
  | bool => exact (show isT "bool" "bool" = true by decide)
  | int => exact (show isT "int" "bool" = false by decide)
  | str => exact (show isT "str" "bool" = false by decide)
  | list => exact (show isT "list" "bool" = false by decide)
  | tuple => exact (show isT "tuple" "bool" = false by decide)
  | dict => exact (show isT "dict" "bool" = false by decide)
theorem non_non : decide (V.non = V.non) = true := decide_eq_true rfl
def numD : PyData → Bool
  | .int i => decide (-1000000000000000000000000000000 < i) && decide (i < 1000000000000000000000000000000)
  | _ => false
abbrev s_is_number : Stmt := top 9
theorem sc_is_number : FnScope ["value"] ["value"] (defScope s_is_number) := ⟨rfl, rfl, rfl, by decide +kernel, rfl, by decide +kernel, by decide +kernel⟩
def sp_is_number (K : PySem.W.Frag) : Sp := fun vs H Q _ => ∃ v p, vs = [v] ∧ Dp K H v p ∧ Q (.bl (numD p)) H
theorem ok_is_number (C : Cx0 K mg base) : Cal P w K mg base 2 "is_number" ["value"] (sp_is_number K) := by
  have c_is_integer := ok_is_integer (P := P) (w := w) C
  refine C.cal 1 1 rfl rfl sc_is_number (fun _ _ _ _ _ _ us hl => match us, hl with | [_], _ => rfl) (fun vs H Q E h => ?_) (fun f cdv A outer s H vs Q E hr h => ⟨_, PSs.nox
    (pss_one (ps_ret (pe_and (pe_f c_is_integer hr (by first | decide | omega) passL (pa_cons (pv 0) pa_nil)) (pe_one (pe_chain (k_lt (K := K) rfl hr) (k_lt (K := K) rfl hr) (pe_un un_neg (pe_gi (C.int 44))) (pv 0) (pe_gi (C.int 44))))))), ?_⟩)
  · obtain ⟨v, p, rfl, _⟩ := h
    rfl
  · obtain ⟨v, p, rfl, dp, k⟩ := h
    repeat walk_at "rd"
    refine ⟨v, _, rfl, Dp.ty dp, ?_⟩
    cases dp with
    | int i =>
      repeat walk_at "rd"
      by_cases c : -1000000000000000000000000000000 < i
      · refine r_T (decide_eq_true c) ?_
        repeat walk_at "rd"
        have e : numD (.int i) = decide (i < 1000000000000000000000000000000) := by
          show (decide (-1000000000000000000000000000000 < i) && decide (i < 1000000000000000000000000000000)) = _
          rw [decide_eq_true c, Bool.true_and]
        rw [e] at k
        exact k
      · refine r_F (decide_eq_false c) ?_
        have e : numD (.int i) = false := by
          show (decide (-1000000000000000000000000000000 < i) && decide (i < 1000000000000000000000000000000)) = _
          rw [decide_eq_false c, Bool.false_and]
        rw [e] at k
        exact k
    | _ => exact ⟨false, rfl, k⟩
/-- whether a sign may stand in a text -/
def signB (c : Nat) : Bool := !PySem.W.dataLt (.str ⟨#[c]⟩) (.str " ") && !PySem.W.dataLt (.str "~") (.str ⟨#[c]⟩)
def textD : PyData → Bool
  | .str x => decide (x.length ≤ 60) && x.cps.toList.all signB
  | _ => false
theorem all_map (xs : List Nat) (f : Nat → Bool) : (xs.map f).all id = xs.all f := by
  rw [List.all_map]; rfl
abbrev s_is_text : Stmt := top 11
theorem sc_is_text : FnScope ["value", "sign"] ["value"] (defScope s_is_text) := ⟨rfl, rfl, rfl, by decide +kernel, rfl, by decide +kernel, by decide +kernel⟩
def sp_is_text (K : PySem.W.Frag) : Sp := fun vs H Q _ => ∃ v p, vs = [v] ∧ Dp K H v p ∧ p.weight ≤ 1000000 ∧ ∀ H', Ex H H' → Q (.bl (textD p)) H'
theorem ok_is_text (C : Cx0 K mg base) : Cal P w K mg base 1 "is_text" ["value"] (sp_is_text K) := by
  refine C.cal 3 3 rfl rfl sc_is_text (fun _ _ _ _ _ _ us hl => match us, hl with | [_], _ => rfl) (fun vs H Q E h => ?_) (fun f cdv A outer s H vs Q E hr h => ⟨_, PSs.nox
    (pss_one (ps_ret (pe_and (pe_bi (k_isi (K := K) rfl) (C.free 28) (by decide +kernel) (pa_cons (pv 0) (pa_cons (pe_ty "str" (C.free 29)) pa_nil))) (pe_and (pe_cmpR (k_le (K := K) rfl hr) (pe_bi (k_len (K := K) rfl) (C.free 38) (by decide +kernel) (pa_cons (pv 0) pa_nil)) (pe_gi (C.int 45)) (nomark _)) (pe_one (pe_bi (k_all (K := K) rfl rfl) (C.free 30) (by decide +kernel) (pa_cons (pe_lc (own := [("sign", 1)]) rfl sc_is_text.nd (pi_str (pv 0)) (blkOk_by (N := ["value", "sign"]) (sc := defScope s_is_text) (by decide +kernel)) (fun _ _ _ _ _ => (pg_name (i := 1) sc_is_text.nd rfl (Or.inl rfl))) (fun _ _ _ _ _ => pts_nil) (fun _ _ _ _ _ => (pe_chain (k_le (K := K) rfl hr) (k_le (K := K) rfl hr) pe_str (pv 1) pe_str))) pa_nil))))))), ?_⟩)
  · obtain ⟨v, p, rfl, _⟩ := h
    rfl
  · obtain ⟨v, p, rfl, dp, wt, k⟩ := h
    repeat walk_at "rd"
    refine r_isiK (Dp.ty dp) (by decide) ?_
    rw [isT_str]
    cases dp with
    | str x =>
      have hx : x.length ≤ 1000000 := by
        simp only [PyData.weight] at wt
        exact wt
      have big : 1000000 ≤ sizeLine := by decide
      repeat walk_at "rd"
      refine r_lenZ (by omega) ?_
      repeat walk_at "rd"
      by_cases c : (x.length : Int) ≤ 60
      · refine r_T (decide_eq_true c) ?_
        have e : textD (.str x) = x.cps.toList.all signB := by
          show (decide (x.length ≤ 60) && _) = _
          rw [decide_eq_true (show x.length ≤ 60 by omega), Bool.true_and]
        rw [e] at k
        repeat walk_at "rd"
        refine ⟨x, rfl, c_strB signB (by have : x.cps.size = x.length := rfl; omega) (fun _ => rfl) ?_ ?_⟩
        · intro c H1 q N hc e1 hq
          repeat walk_at "rd"
          refine r_leZ ?_
          refine ⟨_, rfl, ?_⟩
          cases e1 : (!PySem.W.dataLt (.str ⟨#[c]⟩) (.str " ")) with
          | true =>
            repeat walk_at "rd"
            refine r_leZ ?_
            have e2 : signB c = !PySem.W.dataLt (.str "~") (.str ⟨#[c]⟩) := by
              show (_ && _) = _
              rw [e1, Bool.true_and]
            rw [e2] at hq
            exact hq _ (Ex.refl _)
          | false =>
            repeat walk_at "rd"
            have e2 : signB c = false := by
              show (_ && _) = _
              rw [e1, Bool.false_and]
            rw [e2] at hq
            exact hq _ (Ex.refl _)
        · intro L H1 hL e1 hl
          repeat walk_at "rd"
          refine r_all (sqL_of hl) ?_
          rw [all_map]
          exact k _ e1
      · refine r_F (decide_eq_false c) ?_
        have e : textD (.str x) = false := by
          show (decide (x.length ≤ 60) && _) = _
          rw [decide_eq_false (show ¬ x.length ≤ 60 by omega), Bool.false_and]
        rw [e] at k
        exact k _ (Ex.refl _)
    | _ => exact ⟨false, rfl, k _ (Ex.refl _)⟩
def tupD (n : Int) : PyData → Bool
  | .tuple xs => decide ((xs.length : Int) = n)
  | _ => false
abbrev s_is_tuple_of : Stmt := top 12
theorem sc_is_tuple_of : FnScope ["value", "many"] ["value", "many"] (defScope s_is_tuple_of) := ⟨rfl, rfl, rfl, by decide +kernel, rfl, by decide +kernel, by decide +kernel⟩
def sp_is_tuple_of (K : PySem.W.Frag) : Sp := fun vs H Q _ => ∃ v p n, vs = [v, .int n] ∧ Dp K H v p ∧ Q (.bl (tupD n p)) H
theorem ok_is_tuple_of (C : Cx0 K mg base) : Cal P w K mg base 1 "is_tuple_of" ["value", "many"] (sp_is_tuple_of K) := by
  refine C.cal 4 4 rfl rfl sc_is_tuple_of (fun _ _ _ _ _ _ us hl => match us, hl with | [_, _], _ => rfl) (fun vs H Q E h => ?_) (fun f cdv A outer s H vs Q E hr h => ⟨_, PSs.nox
    (pss_one (ps_ret (pe_and (pe_bi (k_isi (K := K) rfl) (C.free 28) (by decide +kernel) (pa_cons (pv 0) (pa_cons (pe_ty "tuple" (C.free 33)) pa_nil))) (pe_one (pe_cmpR (k_eq (K := K) rfl hr) (pe_bi (k_len (K := K) rfl) (C.free 38) (by decide +kernel) (pa_cons (pv 0) pa_nil)) (pv 1) (nomark _)))))), ?_⟩)
  · obtain ⟨v, p, n, rfl, _⟩ := h
    rfl
  · obtain ⟨v, p, n, rfl, dp, k⟩ := h
    repeat walk_at "rd"
    refine r_isiK (Dp.ty dp) (by decide) ?_
    rw [isT_tup]
    cases dp with
    | tup ht hd =>
      repeat walk_at "rd"
      refine r_lenT ht ?_
      repeat walk_at "rd"
      rw [DpA.length hd]
      exact k
    | _ => exact ⟨false, rfl, k⟩
end
end K42

namespace K42
section
variable {P : Program} {w : World} {K : PySem.W.Frag} {mg : Str → Option Value} {base : Heap}
def plainD : Nat → PyData → Bool
  | 0, p => match p with
    | .none => true
    | .bool _ => true
    | .int i => numD (.int i)
    | .str x => textD (.str x)
    | _ => false
  | n + 1, p => match p with
    | .none => true
    | .bool _ => true
    | .int i => numD (.int i)
    | .str x => textD (.str x)
    | .tuple xs => decide (xs.length ≤ 30) && xs.all (plainD n)
    | _ => false
theorem plain_non (n : Nat) : plainD n .none = true := by cases n <;> rfl
theorem plain_bl (n : Nat) (b : Bool) : plainD n (.bool b) = true := by cases n <;> rfl
theorem plain_int (n : Nat) (i : Int) : plainD n (.int i) = numD (.int i) := by cases n <;> rfl
theorem plain_str (n : Nat) (x : Str) : plainD n (.str x) = textD (.str x) := by cases n <;> rfl
theorem plain_list (n : Nat) (xs : List PyData) : plainD n (.list xs) = false := by cases n <;> rfl
theorem plain_tup (n : Nat) (xs : List PyData) : plainD (n + 1) (.tuple xs) = (decide (xs.length ≤ 30) && xs.all (plainD n)) := rfl
theorem plain_tup0 (xs : List PyData) : plainD 0 (.tuple xs) = false := rfl
theorem wt_mem : ∀ {xs : List PyData} {p : PyData}, p ∈ xs → p.weight ≤ PyData.weightAll xs
  | x :: xs, p, h => by
    simp only [PyData.weightAll]
    rcases List.mem_cons.mp h with rfl | h
    · omega
    · have := wt_mem h; omega
theorem wt_tup {xs : List PyData} {p : PyData} (h : p ∈ xs) : p.weight ≤ (PyData.tuple xs).weight := by
  simp only [PyData.weight]
  exact wt_mem h
theorem all_mapD (xs : List PyData) (f : PyData → Bool) : (xs.map f).all id = xs.all f := by
  rw [List.all_map]; rfl
abbrev s_is_plain_within : Stmt := top 13
theorem sc_is_plain_within : FnScope ["value", "deep", "part"] ["value", "deep"] (defScope s_is_plain_within) := ⟨rfl, rfl, rfl, by decide +kernel, rfl, by decide +kernel, by decide +kernel⟩
def sp_plain_within (K : PySem.W.Frag) (b : Nat) : Sp := fun vs H Q _ => ∃ v p, ∃ n : Nat, n < b ∧ vs = [v, .int (n : Nat)] ∧ Dp K H v p ∧ p.weight ≤ 1000000 ∧ ∀ H', Ex H H' → Q (.bl (plainD n p)) H'
theorem ok_is_plain_within (C : Cx0 K mg base) (b : Nat) : Cal P w K mg base (b + 2) "is_plain_within" ["value", "deep"] (sp_plain_within K b) := by
  induction b with
  | zero => exact C.cal 5 5 rfl rfl sc_is_plain_within (fun _ _ _ _ _ _ us hl => match us, hl with | [_, _], _ => rfl) (fun vs H Q E h => by obtain ⟨v, p, n, h, _⟩ := h; omega) (fun f cdv A outer s H vs Q E hr h => by obtain ⟨v, p, n, h, _⟩ := h; omega)
  | succ b c_is_plain_within =>
    have c_is_number := ok_is_number (P := P) (w := w) C
    have c_is_integer := ok_is_integer (P := P) (w := w) C
    have c_is_text := ok_is_text (P := P) (w := w) C
    refine C.cal 5 5 rfl rfl sc_is_plain_within (fun _ _ _ _ _ _ us hl => match us, hl with | [_, _], _ => rfl) (fun vs H Q E h => ?_) (fun f cdv A outer s H vs Q E hr h => ⟨_, PSs.nox
      (pss_cons (ps_if (PW.pt (pw_or (pt_cmpR op_isN (pv 0) pe_non (nomark _)) (pw_or1 (k_truth (K := K) rfl (pe_bi (k_isi (K := K) rfl) (C.free 28) (by decide +kernel) (pa_cons (pv 0) (pa_cons (pe_ty "bool" (C.free 37)) pa_nil))) (by intro _; rfl))))) (pss_one (ps_ret pe_bl)) pss_nil)
      (pss_cons (ps_if (k_truth (K := K) rfl (pe_f c_is_integer hr (by first | decide | omega) passL (pa_cons (pv 0) pa_nil)) (by intro _; rfl)) (pss_one (ps_ret (pe_f c_is_number hr (by first | decide | omega) passL (pa_cons (pv 0) pa_nil)))) pss_nil)
      (pss_cons (ps_if (k_truth (K := K) rfl (pe_bi (k_isi (K := K) rfl) (C.free 28) (by decide +kernel) (pa_cons (pv 0) (pa_cons (pe_ty "str" (C.free 29)) pa_nil))) (by intro _; rfl)) (pss_one (ps_ret (pe_f c_is_text hr (by first | decide | omega) passL (pa_cons (pv 0) pa_nil)))) pss_nil)
      (pss_cons (ps_if (PW.pt (pw_or (pt_not (k_truth (K := K) rfl (pe_bi (k_isi (K := K) rfl) (C.free 28) (by decide +kernel) (pa_cons (pv 0) (pa_cons (pe_ty "tuple" (C.free 33)) pa_nil))) (by intro _; rfl))) (pw_or (pt_cmpR (k_eq (K := K) rfl hr) (pv 1) pe_int (nomark _)) (pw_or1 (pt_cmpR (k_gt (K := K) rfl hr) (pe_bi (k_len (K := K) rfl) (C.free 38) (by decide +kernel) (pa_cons (pv 0) pa_nil)) (pe_gi (C.int 46)) (nomark _)))))) (pss_one (ps_ret pe_bl)) pss_nil)
      (pss_one (ps_ret (pe_bi (k_all (K := K) rfl rfl) (C.free 30) (by decide +kernel) (pa_cons (pe_lc (own := [("part", 2)]) rfl sc_is_plain_within.nd (k_seq (K := K) rfl (pv 0)) (blkOk_by (N := ["value", "deep", "part"]) (sc := defScope s_is_plain_within) (by decide +kernel)) (fun _ _ _ _ _ => (pg_name (i := 2) sc_is_plain_within.nd rfl (Or.inl rfl))) (fun _ _ _ _ _ => pts_nil) (fun _ _ _ _ _ => (pe_f c_is_plain_within hr (by first | decide | omega) passL (pa_cons (pv 2) (pa_cons (pe_op op_sub (pv 1) pe_int) pa_nil))))) pa_nil)))))))), ?_⟩)
    · obtain ⟨v, p, n, _, rfl, _⟩ := h
      rfl
    · obtain ⟨v, p, n, hn, rfl, dp, wt, k⟩ := h
      repeat walk_at "rd"
      refine ⟨rfl, ?_⟩
      cases dp with
      | non =>
        rw [plain_non] at k
        rw [non_non]
        repeat walk_at "rd"
        exact k _ (Ex.refl _)
      | bl x =>
        rw [plain_bl] at k
        rw [show decide (V.bl x = V.non) = false from decide_eq_false fun z => nomatch z]
        repeat walk_at "rd"
        refine r_isiK (.bl x) (by decide) ?_
        rw [show isT "bool" "bool" = true by decide]
        repeat walk_at "rd"
        exact k _ (Ex.refl _)
      | int i =>
        rw [plain_int] at k
        rw [show decide (V.int i = V.non) = false from decide_eq_false fun z => nomatch z]
        repeat walk_at "rd"
        refine r_isiK (.int i) (by decide) ?_
        rw [show isT "int" "bool" = false by decide]
        repeat walk_at "rd"
        refine ⟨_, _, rfl, .int i, ?_⟩
        repeat walk_at "rd"
        exact ⟨_, _, rfl, .int i, k _ (Ex.refl _)⟩
      | str x =>
        rw [plain_str] at k
        rw [show decide (V.str x = V.non) = false from decide_eq_false fun z => nomatch z]
        repeat walk_at "rd"
        refine r_isiK (.str x) (by decide) ?_
        rw [show isT "str" "bool" = false by decide]
        repeat walk_at "rd"
        refine ⟨_, _, rfl, .str x, ?_⟩
        repeat walk_at "rd"
        refine r_isiK (.str x) (by decide) ?_
        rw [show isT "str" "str" = true by decide]
        repeat walk_at "rd"
        exact ⟨_, _, rfl, .str x, wt, k⟩
      | lst hs hd =>
        rename_i a xs ds
        rw [plain_list] at k
        rw [show decide (V.ref a = V.non) = false from decide_eq_false fun z => nomatch z]
        repeat walk_at "rd"
        refine r_isiK (.sqL hs) (by decide) ?_
        rw [show isT "list" "bool" = false by decide]
        repeat walk_at "rd"
        refine ⟨_, _, rfl, .sqL hs, ?_⟩
        repeat walk_at "rd"
        refine r_isiK (.sqL hs) (by decide) ?_
        rw [show isT "list" "str" = false by decide]
        repeat walk_at "rd"
        refine r_isiK (.sqL hs) (by decide) ?_
        rw [show isT "list" "tuple" = false by decide]
        repeat walk_at "rd"
        exact k _ (Ex.refl _)
      | tup hs hd =>
        rename_i a xs ds
        rw [show decide (V.ref a = V.non) = false from decide_eq_false fun z => nomatch z]
        repeat walk_at "rd"
        refine r_isiK (.sqT hs) (by decide) ?_
        rw [show isT "tuple" "bool" = false by decide]
        repeat walk_at "rd"
        refine ⟨_, _, rfl, .sqT hs, ?_⟩
        repeat walk_at "rd"
        refine r_isiK (.sqT hs) (by decide) ?_
        rw [show isT "tuple" "str" = false by decide]
        repeat walk_at "rd"
        refine r_isiK (.sqT hs) (by decide) ?_
        rw [show isT "tuple" "tuple" = true by decide]
        repeat walk_at "rd"
        cases n with
        | zero =>
          refine r_T (decide_eq_true rfl) ?_
          repeat walk_at "rd"
          exact k _ (Ex.refl _)
        | succ n =>
          rw [plain_tup] at k
          refine r_F (decide_eq_false (by omega)) ?_
          repeat walk_at "rd"
          refine r_lenT hs ?_
          repeat walk_at "rd"
          have hl := DpA.length hd
          by_cases c : xs.length ≤ 30
          · refine r_F (decide_eq_false (by omega)) ?_
            rw [decide_eq_true (show ds.length ≤ 30 by omega), Bool.true_and] at k
            repeat walk_at "rd"
            refine c_seqD (k := .t) hs hd (plainD n) (by omega) (fun _ => rfl) ?_ ?_
            · intro v p H1 q N hp dp e1 hq
              repeat walk_at "rd"
              have hwt := wt_tup hp
              exact ⟨v, p, n, by omega, by rw [Int.natCast_add]; rw [show ((n : Int) + ((1 : Nat) : Int) - 1) = n by omega], dp, by omega, fun H4 e4 => hq H4 e4⟩
            · intro L H1 hL e1 hl
              repeat walk_at "rd"
              refine r_all (sqL_of hl) ?_
              rw [all_mapD]
              exact k _ e1
          · refine r_T (decide_eq_true (by omega)) ?_
            rw [decide_eq_false (show ¬ ds.length ≤ 30 by omega), Bool.false_and] at k
            repeat walk_at "rd"
            exact k _ (Ex.refl _)
abbrev s_is_plain : Stmt := top 14
theorem sc_is_plain : FnScope ["value"] ["value"] (defScope s_is_plain) := ⟨rfl, rfl, rfl, by decide +kernel, rfl, by decide +kernel, by decide +kernel⟩
def sp_plain (K : PySem.W.Frag) : Sp := fun vs H Q _ => ∃ v p, vs = [v] ∧ Dp K H v p ∧ p.weight ≤ 1000000 ∧ ∀ H', Ex H H' → Q (.bl (plainD 8 p)) H'
theorem ok_is_plain (C : Cx0 K mg base) : Cal P w K mg base 12 "is_plain" ["value"] (sp_plain K) := by
  have c_is_plain_within := ok_is_plain_within (P := P) (w := w) C 9
  refine C.cal 6 6 rfl rfl sc_is_plain (fun _ _ _ _ _ _ us hl => match us, hl with | [_], _ => rfl) (fun vs H Q E h => ?_) (fun f cdv A outer s H vs Q E hr h => ⟨_, PSs.nox
    (pss_one (ps_ret (pe_f c_is_plain_within hr (by first | decide | omega) passL (pa_cons (pv 0) (pa_cons (pe_gi (C.int 47)) pa_nil))))), ?_⟩)
  · obtain ⟨v, p, rfl, _⟩ := h
    rfl
  · obtain ⟨v, p, rfl, dp, wt, k⟩ := h
    repeat walk_at "rd"
    exact ⟨v, p, 8, by omega, rfl, dp, wt, k⟩
def inD (lo hi : Int) : PyData → Bool
  | .int i => decide (lo ≤ i) && decide (i ≤ hi)
  | _ => false
theorem inB_D {lo hi : Int} {H : Hp} {v : V} {p : PyData} (h : Dp K H v p) : inB lo hi v = inD lo hi p := by
  cases h <;> rfl
def entD : PyData → Bool
  | .tuple [a, b] => inD 1 1000000000 a && plainD 8 b
  | _ => false
theorem ent_no {xs : List PyData} (h : xs.length ≠ 2) : entD (.tuple xs) = false := by
  match xs, h with
  | [], _ => rfl
  | [_], _ => rfl
  | [_, _], h => exact absurd rfl h
  | _ :: _ :: _ :: _, _ => rfl
abbrev s_is_entry : Stmt := top 19
theorem sc_is_entry : FnScope ["value"] ["value"] (defScope s_is_entry) := ⟨rfl, rfl, rfl, by decide +kernel, rfl, by decide +kernel, by decide +kernel⟩
def sp_entry (K : PySem.W.Frag) : Sp := fun vs H Q _ => ∃ v p, vs = [v] ∧ Dp K H v p ∧ p.weight ≤ 1000000 ∧ ∀ H', Ex H H' → Q (.bl (entD p)) H'
theorem ok_is_entry (C : Cx0 K mg base) : Cal P w K mg base 13 "is_entry" ["value"] (sp_entry K) := by
  have c_is_tuple_of := ok_is_tuple_of (P := P) (w := w) C
  have c_is_in := ok_is_in (P := P) (w := w) C
  have c_is_plain := ok_is_plain (P := P) (w := w) C
  refine C.cal 8 8 rfl rfl sc_is_entry (fun _ _ _ _ _ _ us hl => match us, hl with | [_], _ => rfl) (fun vs H Q E h => ?_) (fun f cdv A outer s H vs Q E hr h => ⟨_, PSs.nox
    (pss_one (ps_ret (pe_and (pe_f c_is_tuple_of hr (by first | decide | omega) passL (pa_cons (pv 0) (pa_cons pe_int pa_nil))) (pe_and (pe_f c_is_in hr (by first | decide | omega) passL (pa_cons (pe_ix (k_ix (K := K) rfl) (pv 0) pe_int (fun _ _ => rfl)) (pa_cons pe_int (pa_cons (pe_gi (C.int 49)) pa_nil)))) (pe_one (pe_f c_is_plain hr (by first | decide | omega) passL (pa_cons (pe_ix (k_ix (K := K) rfl) (pv 0) pe_int (fun _ _ => rfl)) pa_nil))))))), ?_⟩)
  · obtain ⟨v, p, rfl, _⟩ := h
    rfl
  · obtain ⟨v, p, rfl, dp, wt, k⟩ := h
    repeat walk_at "rd"
    refine ⟨v, p, 2, rfl, dp, ?_⟩
    cases dp with
    | tup hs hd =>
      rename_i a xs ds
      by_cases c : ds.length = 2
      · obtain ⟨x, y, rfl⟩ : ∃ x y, ds = [x, y] := by
          match ds, c with
          | [x, y], _ => exact ⟨x, y, rfl⟩
        cases hd with
        | cons h1 hd =>
          rename_i u us
          cases hd with
          | cons h2 hd =>
            rename_i u2 us2
            cases hd
            have e2 : tupD 2 (.tuple [x, y]) = true := by
              show decide ((([x, y].length : Nat) : Int) = 2) = true
              exact decide_eq_true (by simp)
            rw [e2]
            repeat walk_at "rd"
            refine r_ixS (k := .t) (i := 0) hs rfl ?_
            repeat walk_at "rd"
            refine ⟨u, _, 1, 1000000000, rfl, Dp.ty h1, ?_⟩
            rw [inB_D h1]
            have e : entD (.tuple [x, y]) = (inD 1 1000000000 x && plainD 8 y) := rfl
            rw [e] at k
            cases e1 : inD 1 1000000000 x with
            | true =>
              rw [e1, Bool.true_and] at k
              repeat walk_at "rd"
              refine r_ixS (k := .t) (i := 1) hs rfl ?_
              repeat walk_at "rd"
              exact ⟨u2, y, rfl, h2, Nat.le_trans (wt_tup (by simp)) wt, k⟩
            | false =>
              rw [e1, Bool.false_and] at k
              exact ⟨_, rfl, k _ (Ex.refl _)⟩
      · have e1 : tupD 2 (.tuple ds) = false := decide_eq_false (by omega)
        rw [e1]
        rw [ent_no c] at k
        exact ⟨false, rfl, k _ (Ex.refl _)⟩
    | _ => exact ⟨false, rfl, k _ (Ex.refl _)⟩
end
end K42

namespace K42
section
variable {P : Program} {w : World} {K : PySem.W.Frag} {mg : Str → Option Value} {base : Heap}
theorem ent_at {H : Hp} {u : V} {p : PyData} (h : entD p = true) (dp : Dp K H u p) : ∃ a t y q, u = .ref a ∧ SqT K H a [.int t, y] ∧ p = .tuple [.int t, q] ∧ Dp K H y q ∧ 1 ≤ t ∧ t ≤ 1000000000 ∧ plainD 8 q = true := by
  cases dp with
  | tup hs hd =>
    rename_i a xs ds
    by_cases c : ds.length = 2
    · obtain ⟨x, y, rfl⟩ : ∃ x y, ds = [x, y] := by
        match ds, c with
        | [x, y], _ => exact ⟨x, y, rfl⟩
      have e : (inD 1 1000000000 x && plainD 8 y) = true := h
      rw [Bool.and_eq_true] at e
      cases hd with
      | cons h1 hd =>
        cases hd with
        | cons h2 hd =>
          cases hd
          obtain ⟨e1, e2⟩ := e
          cases x with
          | int t =>
            have e3 : (decide ((1 : Int) ≤ t) && decide (t ≤ 1000000000)) = true := e1
            rw [Bool.and_eq_true, decide_eq_true_eq, decide_eq_true_eq] at e3
            cases h1
            exact ⟨a, t, _, y, rfl, hs, rfl, h2, e3.1, e3.2, e2⟩
          | _ => cases e1
    · rw [ent_no c] at h
      cases h
  | _ => cases h
def termD : PyData → Int
  | .tuple (.int t :: _) => t
  | _ => 0
def ascD (es : List PyData) : Bool := (es.zip (es.drop 1)).all fun p => decide (termD p.1 ≤ termD p.2)
def logD : PyData → Bool
  | .tuple es => decide (es.length ≤ 600) && (es.all entD && ascD es)
  | _ => false
theorem all_mapP (xs : List (PyData × PyData)) (f : PyData × PyData → Bool) : (xs.map f).all id = xs.all f := by
  rw [List.all_map]; rfl
abbrev s_is_log : Stmt := top 20
theorem sc_is_log : FnScope ["value", "entry", "one", "two"] ["value"] (defScope s_is_log) := ⟨rfl, rfl, rfl, by decide +kernel, rfl, by decide +kernel, by decide +kernel⟩
def sp_log (K : PySem.W.Frag) : Sp := fun vs H Q _ => ∃ v p, vs = [v] ∧ Dp K H v p ∧ p.weight ≤ 1000000 ∧ ∀ H', Ex H H' → Q (.bl (logD p)) H'
theorem ok_is_log (C : Cx0 K mg base) : Cal P w K mg base 14 "is_log" ["value"] (sp_log K) := by
  have c_is_entry := ok_is_entry (P := P) (w := w) C
  refine C.cal 9 9 rfl rfl sc_is_log (fun _ _ _ _ _ _ us hl => match us, hl with | [_], _ => rfl) (fun vs H Q E h => ?_) (fun f cdv A outer s H vs Q E hr h => ⟨_, PSs.nox
    (pss_cons (ps_if (PW.pt (pw_or (pt_not (k_truth (K := K) rfl (pe_bi (k_isi (K := K) rfl) (C.free 28) (by decide +kernel) (pa_cons (pv 0) (pa_cons (pe_ty "tuple" (C.free 33)) pa_nil))) (by intro _; rfl))) (pw_or (pt_cmpR (k_gt (K := K) rfl hr) (pe_bi (k_len (K := K) rfl) (C.free 38) (by decide +kernel) (pa_cons (pv 0) pa_nil)) (pe_gi (C.int 48)) (nomark _)) (pw_or1 (pt_not (k_truth (K := K) rfl (pe_bi (k_all (K := K) rfl rfl) (C.free 30) (by decide +kernel) (pa_cons (pe_lc (own := [("entry", 1)]) rfl sc_is_log.nd (k_seq (K := K) rfl (pv 0)) (blkOk_by (N := ["value", "entry", "one", "two"]) (sc := defScope s_is_log) (by decide +kernel)) (fun _ _ _ _ _ => (pg_name (i := 1) sc_is_log.nd rfl (Or.inl rfl))) (fun _ _ _ _ _ => pts_nil) (fun _ _ _ _ _ => (pe_f c_is_entry hr (by first | decide | omega) passL (pa_cons (pv 1) pa_nil)))) pa_nil)) (by intro _; rfl))))))) (pss_one (ps_ret pe_bl)) pss_nil)
      (pss_one (ps_ret (pe_bi (k_all (K := K) rfl rfl) (C.free 30) (by decide +kernel) (pa_cons (pe_lc (own := [("one", 2), ("two", 3)]) rfl sc_is_log.nd (k_zip (K := K) rfl rfl (C.free 35) (pa_cons (pv 0) (pa_cons (pe_slice (k_sl (K := K) rfl) (pv 0) (po_some pe_int) po_none) pa_nil))) (blkOk_by (N := ["value", "entry", "one", "two"]) (sc := defScope s_is_log) (by decide +kernel)) (fun _ _ _ _ _ => (k_two (K := K) (i := 2) (j := 3) rfl sc_is_log.nd rfl rfl (Or.inl rfl) (Or.inl rfl) (Or.inr rfl) (Or.inr rfl) rfl)) (fun _ _ _ _ _ => pts_nil) (fun _ _ _ _ _ => (pe_cmpR (k_le (K := K) rfl hr) (pe_ix (k_ix (K := K) rfl) (pv 2) pe_int (fun _ _ => rfl)) (pe_ix (k_ix (K := K) rfl) (pv 3) pe_int (fun _ _ => rfl)) (nomark _)))) pa_nil))))), ?_⟩)
  · obtain ⟨v, p, rfl, _⟩ := h
    rfl
  · obtain ⟨v, p, rfl, dp, wt, k⟩ := h
    repeat walk_at "rd"
    refine r_isiK (Dp.ty dp) (by decide) ?_
    rw [isT_tup]
    cases dp with
    | tup hs hd =>
      rename_i a xs es
      have hl := DpA.length hd
      repeat walk_at "rd"
      refine r_lenT hs ?_
      repeat walk_at "rd"
      have eL : logD (.tuple es) = (decide (es.length ≤ 600) && (es.all entD && ascD es)) := rfl
      rw [eL] at k
      by_cases c : es.length ≤ 600
      · refine r_F (decide_eq_false (by omega)) ?_
        rw [decide_eq_true c, Bool.true_and] at k
        repeat walk_at "rd"
        refine c_seqD (k := .t) hs hd entD (by omega) (fun _ => rfl) ?_ ?_
        · intro v p H1 q N hp dp e1 hq
          repeat walk_at "rd"
          have hwt := wt_tup hp
          exact ⟨v, p, rfl, dp, by omega, fun H4 e4 => hq H4 e4⟩
        · intro L H1 hL e1 hl1
          repeat walk_at "rd"
          refine r_all (sqL_of hl1) ?_
          rw [all_mapD]
          cases ea : es.all entD with
          | false =>
            rw [ea, Bool.false_and] at k
            repeat walk_at "rd"
            exact k _ e1
          | true =>
            rw [ea, Bool.true_and] at k
            have ents := List.all_eq_true.mp ea
            repeat walk_at "rd"
            refine r_slT (sqT_ex e1 hs) fun p2 H2 e2 h2 => ?_
            rw [show cutV xs (some (1 : Int)) none = xs.drop 1 from cut_hi (i := 1)] at h2
            have e12 := e1.trans e2
            refine c_zipD (k1 := .t) (k2 := .t) (sqT_ex e12 hs) h2 (DpA.ex e12 hd) (DpA.drop (DpA.ex e12 hd) 1) (fun p q => decide (termD p ≤ termD q)) (by omega) (fun _ _ => rfl) ?_ ?_
            · intro u v p q T H3 Q1 N hp hq dp dq e3 hT hQ
              obtain ⟨a1, t1, y1, q1, rfl, s1, rfl, _⟩ := ent_at (ents p hp) dp
              obtain ⟨a2, t2, y2, q2, rfl, s2, rfl, _⟩ := ent_at (ents q (List.mem_of_mem_drop hq)) dq
              repeat walk_at "rd"
              refine r_ixS (k := .t) (i := 0) (sqT_up hT s1) rfl ?_
              repeat walk_at "rd"
              refine r_ixS (k := .t) (i := 0) (sqT_up hT s2) rfl ?_
              repeat walk_at "rd"
              exact hQ _ (Ex.new hT)
            · intro L2 H3 hL2 e3 hl3
              repeat walk_at "rd"
              refine r_all (sqL_of hl3) ?_
              rw [all_mapP]
              exact k _ (e12.trans e3)
      · refine r_T (decide_eq_true (by omega)) ?_
        rw [decide_eq_false c, Bool.false_and] at k
        repeat walk_at "rd"
        exact k _ (Ex.refl _)
    | _ =>
      repeat walk_at "rd"
      exact k _ (Ex.refl _)
/-- how far two rows of data are shown alike -/
def comN : List PyData → List PyData → Nat
  | a :: as, b :: bs => if a.shown = b.shown then comN as bs + 1 else 0
  | _, _ => 0
theorem comN_step {ds es : List PyData} {i : Nat} {p q : PyData} (h1 : ds[i]? = some p) (h2 : es[i]? = some q) : comN (ds.drop i) (es.drop i) = if p.shown = q.shown then comN (ds.drop (i + 1)) (es.drop (i + 1)) + 1 else 0 := by
  obtain ⟨l1, e1⟩ := List.getElem?_eq_some_iff.mp h1
  obtain ⟨l2, e2⟩ := List.getElem?_eq_some_iff.mp h2
  rw [List.drop_eq_getElem_cons l1, List.drop_eq_getElem_cons l2, e1, e2, comN]
theorem comN_end {ds es : List PyData} {i : Nat} (h : i = min ds.length es.length) : comN (ds.drop i) (es.drop i) = 0 := by
  by_cases c : ds.length ≤ i
  · rw [List.drop_eq_nil_of_le c]
    cases es.drop i <;> rfl
  · rw [List.drop_eq_nil_of_le (show es.length ≤ i by omega)]
    cases ds.drop i <;> rfl
theorem comN_symm : ∀ ds es : List PyData, comN ds es = comN es ds
  | [], [] => rfl
  | [], _ :: _ => rfl
  | _ :: _, [] => rfl
  | d :: ds, e :: es => by
    rw [comN, comN, comN_symm ds es]
    by_cases c : d.shown = e.shown
    · rw [if_pos c, if_pos c.symm]
    · rw [if_neg c, if_neg fun z => c z.symm]
/-- rows that can be shown one by one -/
def RowOk (ds : List PyData) : Prop := ds.length ≤ 1000 ∧ ∀ p ∈ ds, Shw p ∧ ∃ xs, p = .tuple xs
abbrev s_common_of : Stmt := top 21
theorem sc_common_of : FnScope ["one", "other", "at", "pair"] ["one", "other"] (defScope s_common_of) := ⟨rfl, rfl, rfl, by decide +kernel, rfl, by decide +kernel, by decide +kernel⟩
def sp_common_of (K : PySem.W.Frag) : Sp := fun vs H Q _ => ∃ a b us ws ds es, vs = [.ref a, .ref b] ∧ SqT K H a us ∧ DpAll K H us ds ∧ SqT K H b ws ∧ DpAll K H ws es ∧ RowOk ds ∧ RowOk es ∧ ∀ H', Ex H H' → Q (.int (comN ds es : Nat)) H'
theorem ok_common_of (C : Cx0 K mg base) : CalG P w K mg base 1 "common_of" ["one", "other"] (sp_common_of K) := by
  refine C.calG 10 10 rfl rfl sc_common_of (fun _ _ _ _ _ _ us hl => match us, hl with | [_, _], _ => rfl) (fun vs H Q E h => ?_) (fun f cdv A outer s H vs Q E gd hr h => ⟨_, PSs.nox
    (pss_cons (ps_for PassesOwn.never rfl (pi_ez (K := K) rfl rfl (C.free 31) rfl (C.free 35) (pa_cons (pv 0) (pa_cons (pv 1) pa_nil))) (k_two (K := K) (i := 2) (j := 3) rfl sc_common_of.nd rfl rfl (Or.inl rfl) (Or.inl rfl) (Or.inl rfl) (Or.inl rfl) rfl)
      (pss_one (ps_if (pt_cmpR (k_ne (K := K) rfl hr) (pe_bi (k_repr (K := K) rfl hr gd) (C.free 41) (by decide +kernel) (pa_cons (pe_ix (k_ix (K := K) rfl) (pv 3) pe_int (fun _ _ => rfl)) pa_nil)) (pe_bi (k_repr (K := K) rfl hr gd) (C.free 41) (by decide +kernel) (pa_cons (pe_ix (k_ix (K := K) rfl) (pv 3) pe_int (fun _ _ => rfl)) pa_nil)) (nomark _)) (pss_one (ps_ret (pv 2))) pss_nil)))
      (pss_one (ps_ret (pe_bi (cr_min2 rfl) (C.free 32) (by decide +kernel) (pa_cons (pe_bi (k_len (K := K) rfl) (C.free 38) (by decide +kernel) (pa_cons (pv 0) pa_nil)) (pa_cons (pe_bi (k_len (K := K) rfl) (C.free 38) (by decide +kernel) (pa_cons (pv 1) pa_nil)) pa_nil)))))), ?_⟩)
  · obtain ⟨a, b, us, ws, ds, es, rfl, _⟩ := h
    rfl
  · obtain ⟨a, b, us, ws, ds, es, rfl, ha, hd, hb, he, o1, o2, k⟩ := h
    have l1 := DpA.length hd
    have l2 := DpA.length he
    repeat walk_at "rd"
    refine f_ez (k1 := .t) (k2 := .t) ha hb rfl (fun i σ H' => ∃ x2 x3 : Option V, σ = [some (.ref a), some (.ref b), x2, x3] ∧ Ex H H' ∧ comN ds es = i + comN (ds.drop i) (es.drop i)) ⟨_, _, rfl, Ex.refl H, by rw [Nat.zero_add]; rfl⟩ (fun i σ H' _ p => by obtain ⟨_, _, _, e, _⟩ := p; exact ⟨sqT_ex e ha, sqT_ex e hb⟩) ?_ ?_
    · rintro i x y T U σ H1 hi hx hy ⟨x2, x3, rfl, e1, ec⟩ hT hU ne
      obtain ⟨p, hp, dp⟩ := DpA.get hd hx
      obtain ⟨q, hq, dq⟩ := DpA.get he hy
      rw [comN_step hp hq] at ec
      obtain ⟨⟨sp, xp, ep⟩, sq, xq, eq⟩ := And.intro (o1.2 p (List.mem_of_getElem? hp)) (o2.2 q (List.mem_of_getElem? hq))
      have hU' : upd H1 T (.tup [x, y]) U = none := (upd_ne (Ne.symm ne)).trans hU
      have e2 : Ex H (upd (upd H1 T (.tup [x, y])) U (.tup [.int (i : Nat), .ref T])) := (e1.trans (Ex.new hT)).trans (Ex.new hU')
      have hP : SqT K (upd (upd H1 T (.tup [x, y])) U (.tup [.int (i : Nat), .ref T])) T [x, y] := sqT_up hU' sqT_new
      generalize upd (upd H1 T (.tup [x, y])) U (.tup [.int (i : Nat), .ref T]) = H2 at *
      repeat walk_at "rd"
      refine r_ixS (k := .t) (i := 0) hP rfl ?_
      repeat walk_at "rd"
      refine r_reprD (Dp.ex e2 dp) ep sp ?_
      repeat walk_at "rd"
      refine r_ixS (k := .t) (i := 1) hP rfl ?_
      repeat walk_at "rd"
      refine r_reprD (Dp.ex e2 dq) eq sq ?_
      repeat walk_at "rd"
      by_cases c : p.shown = q.shown
      · rw [if_pos c] at ec
        refine r_F (by rw [decide_eq_true c]; rfl) ?_
        repeat walk_at "rd"
        exact ⟨_, _, rfl, e2, by omega⟩
      · rw [if_neg c, Nat.add_zero] at ec
        refine r_T (by rw [decide_eq_false c]; rfl) ?_
        repeat walk_at "rd"
        rw [← ec]
        exact k _ e2
    · rintro σ H1 ⟨x2, x3, rfl, e1, ec⟩
      rw [comN_end (by omega), Nat.add_zero] at ec
      repeat walk_at "rd"
      refine r_lenT (sqT_ex e1 ha) ?_
      repeat walk_at "rd"
      refine r_lenT (sqT_ex e1 hb) ?_
      repeat walk_at "rd"
      have e : min (us.length : Int) (ws.length : Int) = (comN ds es : Nat) := by omega
      rw [e]
      exact k _ e1
end
end K42

namespace K42
theorem atI_last {α : Type} {xs : List α} {v : α} (h : xs[xs.length - 1]? = some v) : atI xs (-1) = some v := by
  have l : xs.length - 1 < xs.length := (List.getElem?_eq_some_iff.mp h).1
  unfold atI ixN
  rw [if_neg (by omega : ¬ (0 : Int) ≤ -1), if_pos (by omega : -(xs.length : Int) ≤ -1)]
  show xs[((-1 : Int) + xs.length).toNat]? = some v
  rw [show ((-1 : Int) + xs.length).toNat = xs.length - 1 by omega]
  exact h
def rev2 {α : Type} : List α → List α
  | [a, b] => [b, a]
  | l => l
section
variable {P : Program} {w : World} {K : PySem.W.Frag} {mg : Str → Option Value} {base : Heap}
/-- v is a log: its entries -/
def LogAt (K : PySem.W.Frag) (H : Hp) (v : V) (ds : List PyData) : Prop := Dp K H v (.tuple ds) ∧ logD (.tuple ds) = true ∧ (PyData.tuple ds).weight ≤ 1000000
/-- v is no log -/
def NoLog (K : PySem.W.Frag) (H : Hp) (v : V) : Prop := ∃ p, Dp K H v p ∧ logD p = false ∧ p.weight ≤ 1000000
theorem LogAt.ex {H H' : Hp} {v : V} {ds : List PyData} (e : Ex H H') (h : LogAt K H v ds) : LogAt K H' v ds := ⟨Dp.ex e h.1, h.2⟩
theorem NoLog.ex {H H' : Hp} {v : V} (e : Ex H H') (h : NoLog K H v) : NoLog K H' v := by
  obtain ⟨p, h1, h2⟩ := h
  exact ⟨p, Dp.ex e h1, h2⟩
theorem LogAt.get {H : Hp} {v : V} {ds : List PyData} (h : LogAt K H v ds) : ∃ a us, v = .ref a ∧ SqT K H a us ∧ DpAll K H us ds := by
  obtain ⟨h, _⟩ := h
  cases h with
  | tup h1 h2 => exact ⟨_, _, rfl, h1, h2⟩
theorem LogAt.ents {H : Hp} {v : V} {ds : List PyData} (h : LogAt K H v ds) : ∀ p ∈ ds, entD p = true := by
  have e : (decide (ds.length ≤ 600) && (ds.all entD && ascD ds)) = true := h.2.1
  rw [Bool.and_eq_true, Bool.and_eq_true] at e
  exact List.all_eq_true.mp e.2.1
theorem LogAt.len {H : Hp} {v : V} {ds : List PyData} (h : LogAt K H v ds) : ds.length ≤ 600 := by
  have e : (decide (ds.length ≤ 600) && (ds.all entD && ascD ds)) = true := h.2.1
  rw [Bool.and_eq_true, decide_eq_true_eq] at e
  exact e.1
abbrev s_common : Stmt := top 22
theorem sc_common : FnScope ["one", "other"] ["one", "other"] (defScope s_common) := ⟨rfl, rfl, rfl, by decide +kernel, rfl, by decide +kernel, by decide +kernel⟩
def sp_commonG (K : PySem.W.Frag) : Sp := fun vs H Q _ => ∃ u v ds es, vs = [u, v] ∧ LogAt K H u ds ∧ LogAt K H v es ∧ RowOk ds ∧ RowOk es ∧ ∀ H', Ex H H' → Q (.int (comN ds es : Nat)) H'
def sp_commonR (K : PySem.W.Frag) : Sp := fun vs H Q E => ∃ u v, vs = [u, v] ∧ ((NoLog K H u ∧ Refuses K "one" H E) ∨ ∃ ds, LogAt K H u ds ∧ NoLog K H v ∧ Refuses K "other" H E)
theorem len_commonG (vs : List V) (H : Hp) (Q : VK) (E : XK) (h : sp_commonG K vs H Q E) : vs.length = 2 := by
  obtain ⟨u, v, ds, es, rfl, _⟩ := h
  rfl
def sp_never : Sp := fun _ _ _ _ => False
theorem cr_common_of (C : Cx0 K mg base) : Cal P w K mg base 1 "common_of" ["one", "other"] sp_never :=
  C.cal 10 10 rfl rfl sc_common_of (fun _ _ _ _ _ _ us hl => match us, hl with | [_, _], _ => rfl) (fun vs H Q E h => h.elim) (fun f cdv A outer s H vs Q E hr h => h.elim)
theorem body_common (C : Cx0 K mg base) (O : OBad P w K mg base) : ∀ (f : Addr) (cdv : Value) (A : Around) (outer : List Env) (s : Shared) (H : Hp) (vs : List V) (Q : VK) (E : XK), (A.deeper (envOfC "common" (defScope s_common) s.heap.objs.size f cdv)).guards = some [] → Room 14 (A.deeper (envOfC "common" (defScope s_common) s.heap.objs.size f cdv)) → sp_commonG K vs H Q E →
      ∃ t, PSs (cxOf (L2.CX P w) P w K mg base ["one", "other"] "common" (defScope s_common) f cdv A outer s H E) (defBody s_common) t ∧ t { nx := fun _ H' => Q .non H', rt := Q } (start ["one", "other"] vs) H := by
  have c_demand := ok_demand C O
  have c_is_log := ok_is_log (P := P) (w := w) C
  have c_common_of := ok_common_of (P := P) (w := w) C
  refine fun f cdv A outer s H vs Q E gd hr h => ⟨_,
    (pss_cons (ps_expr (pe_f c_demand hr (by first | decide | omega) (passes_call (takes_of rfl rfl rfl rfl) fun _ _ _ _ h => h) (pa_cons (pe_f c_is_log hr (by first | decide | omega) (passes_call (takes_of rfl rfl rfl rfl) fun _ _ _ _ h => h) (pa_cons (pv 0) pa_nil)) (pa_cons pe_str pa_nil))))
      (pss_cons (ps_expr (pe_f c_demand hr (by first | decide | omega) (passes_call (takes_of rfl rfl rfl rfl) fun _ _ _ _ h => h) (pa_cons (pe_f c_is_log hr (by first | decide | omega) (passes_call (takes_of rfl rfl rfl rfl) fun _ _ _ _ h => h) (pa_cons (pv 1) pa_nil)) (pa_cons pe_str pa_nil))))
      (pss_one (ps_ret (pe_fG c_common_of gd hr (by decide) (passes_call (takes_of rfl rfl rfl rfl) fun _ _ _ _ h => h) (pa_cons (pv 0) (pa_cons (pv 1) pa_nil))))))), ?_⟩
  obtain ⟨u, v, ds, es, rfl, h1, h2, o1, o2, k⟩ := h
  repeat walk_at "rd"
  refine ⟨u, _, rfl, h1.1, h1.2.2, fun H1 e1 => ?_⟩
  rw [h1.2.1]
  repeat walk_at "rd"
  refine ⟨_, _, rfl, fun _ => ?_, fun z => nomatch z⟩
  repeat walk_at "rd"
  refine ⟨v, _, rfl, Dp.ex e1 h2.1, h2.2.2, fun H2 e2 => ?_⟩
  rw [h2.2.1]
  repeat walk_at "rd"
  refine ⟨_, _, rfl, fun _ => ?_, fun z => nomatch z⟩
  repeat walk_at "rd"
  have e12 := e1.trans e2
  obtain ⟨a, us, rfl, ha, hd⟩ := (h1.ex e12).get
  obtain ⟨b, ws, rfl, hb, he⟩ := (h2.ex e12).get
  exact ⟨a, b, us, ws, ds, es, rfl, ha, hd, hb, he, o1, o2, fun H' e' => k _ (e12.trans e')⟩
theorem ok_common (C : Cx0 K mg base) (O : OBad P w K mg base) : CalG P w K mg base 15 "common" ["one", "other"] (sp_commonG K) := C.calG 11 11 rfl rfl sc_common (fun _ _ _ _ _ _ us hl => match us, hl with | [_, _], _ => rfl) len_commonG (body_common C O)
theorem ok_commonK (C : Cx0 K mg base) (O : OBad P w K mg base) : CalKG P w K mg base 15 "common" ["other", "one"] (sp_commonG K) rev2 :=
  C.calKG 11 11 (ps := ["one", "other"]) (ks := ["other", "one"]) (g := rev2) (gV := rev2) rfl rfl sc_common (fun zs ws h => by
    match zs, ws, h with
    | [], _, .nil => exact .nil
    | [_], _, .cons a .nil => exact .cons a .nil
    | [_, _], _, .cons a (.cons b .nil) => exact .cons b (.cons a .nil)
    | _ :: _ :: _ :: _, _, .cons a (.cons b (.cons c d)) => exact .cons a (.cons b (.cons c d))) (fun _ _ _ _ _ _ ws hl => match ws, hl with | [_, _], _ => rfl) len_commonG (body_common C O)
theorem ok_commonR (C : Cx0 K mg base) (O : OBad P w K mg base) : Cal P w K mg base 15 "common" ["one", "other"] (sp_commonR K) := by
  have c_demand := ok_demand C O
  have c_is_log := ok_is_log (P := P) (w := w) C
  have cr_common_of := cr_common_of (P := P) (w := w) C
  refine C.cal 11 11 rfl rfl sc_common (fun _ _ _ _ _ _ us hl => match us, hl with | [_, _], _ => rfl) (fun vs H Q E h => ?_) (fun f cdv A outer s H vs Q E hr h => ⟨_,
    (pss_cons (ps_expr (pe_f c_demand hr (by first | decide | omega) (passes_call (takes_of rfl rfl rfl rfl) fun _ _ _ _ h => h) (pa_cons (pe_f c_is_log hr (by first | decide | omega) (passes_call (takes_of rfl rfl rfl rfl) fun _ _ _ _ h => h) (pa_cons (pv 0) pa_nil)) (pa_cons pe_str pa_nil))))
      (pss_cons (ps_expr (pe_f c_demand hr (by first | decide | omega) (passes_call (takes_of rfl rfl rfl rfl) fun _ _ _ _ h => h) (pa_cons (pe_f c_is_log hr (by first | decide | omega) (passes_call (takes_of rfl rfl rfl rfl) fun _ _ _ _ h => h) (pa_cons (pv 1) pa_nil)) (pa_cons pe_str pa_nil))))
      (pss_one (ps_ret (pe_f cr_common_of hr (by first | decide | omega) (passes_call (takes_of rfl rfl rfl rfl) fun _ _ _ _ h => h) (pa_cons (pv 0) (pa_cons (pv 1) pa_nil))))))), ?_⟩)
  · obtain ⟨u, v, rfl, _⟩ := h
    rfl
  · obtain ⟨u, v, rfl, h⟩ := h
    repeat walk_at "rd"
    rcases h with ⟨⟨p, d1, n1, w1⟩, r⟩ | ⟨ds, h1, ⟨p, d2, n2, w2⟩, r⟩
    · refine ⟨u, _, rfl, d1, w1, fun H1 e1 => ?_⟩
      rw [n1]
      repeat walk_at "rd"
      exact ⟨_, _, rfl, (fun z => nomatch z), fun _ => r.ex e1⟩
    · refine ⟨u, _, rfl, h1.1, h1.2.2, fun H1 e1 => ?_⟩
      rw [h1.2.1]
      repeat walk_at "rd"
      refine ⟨_, _, rfl, fun _ => ?_, fun z => nomatch z⟩
      repeat walk_at "rd"
      refine ⟨v, _, rfl, Dp.ex e1 d2, w2, fun H2 e2 => ?_⟩
      rw [n2]
      repeat walk_at "rd"
      exact ⟨_, _, rfl, (fun z => nomatch z), fun _ => r.ex (e1.trans e2)⟩
/-- the end of a log -/
def lastD (ds : List PyData) : List Int := match ds[ds.length - 1]? with
  | some e => [termD e, (ds.length : Int)]
  | none => [0, 0]
abbrev s_last_in : Stmt := top 23
theorem sc_last_in : FnScope ["log"] ["log"] (defScope s_last_in) := ⟨rfl, rfl, rfl, by decide +kernel, rfl, by decide +kernel, by decide +kernel⟩
def sp_last_in (K : PySem.W.Frag) : Sp := fun vs H Q _ => ∃ u ds, vs = [u] ∧ LogAt K H u ds ∧ ∀ p H', Ex H H' → SqT K H' p ((lastD ds).map V.int) → Q (.ref p) H'
theorem ok_last_in (C : Cx0 K mg base) : Cal P w K mg base 1 "last_in" ["log"] (sp_last_in K) := by
  refine C.cal 12 12 rfl rfl sc_last_in (fun _ _ _ _ _ _ us hl => match us, hl with | [_], _ => rfl) (fun vs H Q E h => ?_) (fun f cdv A outer s H vs Q E hr h => ⟨_, PSs.nox
    (pss_one (ps_ret (pe_ifExp (pt_cmpR (k_gt (K := K) rfl hr) (pe_bi (k_len (K := K) rfl) (C.free 38) (by decide +kernel) (pa_cons (pv 0) pa_nil)) pe_int (nomark _)) (pe_tup (pa_cons (pe_ix (k_ix (K := K) rfl) (pe_ix (k_ix (K := K) rfl) (pv 0) (pe_un un_neg pe_int) (fun _ _ => rfl)) pe_int (fun _ _ => rfl)) (pa_cons (pe_bi (k_len (K := K) rfl) (C.free 38) (by decide +kernel) (pa_cons (pv 0) pa_nil)) pa_nil))) (pe_tup (pa_cons pe_int (pa_cons pe_int pa_nil)))))), ?_⟩)
  · obtain ⟨u, ds, rfl, _⟩ := h
    rfl
  · obtain ⟨u, ds, rfl, h, k⟩ := h
    have ents := h.ents
    obtain ⟨a, us, rfl, ha, hd⟩ := h.get
    have hl := DpA.length hd
    unfold lastD at k
    repeat walk_at "rd"
    refine r_lenT ha ?_
    repeat walk_at "rd"
    by_cases c : 0 < us.length
    · have lx : ds.length - 1 < ds.length := by omega
      have hx : ds[ds.length - 1]? = some ds[ds.length - 1] := List.getElem?_eq_getElem lx
      obtain ⟨u1, hu, du⟩ := DpA.at hd hx
      obtain ⟨a1, t, y, q, rfl, s1, e1, _⟩ := ent_at (ents _ (List.getElem_mem lx)) du
      rw [hx, e1] at k
      refine r_T (decide_eq_true (by omega)) ?_
      repeat walk_at "rd"
      rw [← hl] at hu
      refine r_ixM (k := .t) ha (atI_last hu) ?_
      repeat walk_at "rd"
      refine r_ixS (k := .t) (i := 0) s1 rfl ?_
      repeat walk_at "rd"
      refine r_lenT ha ?_
      repeat walk_at "rd"
      refine ⟨(show 2 ≤ sizeLine by decide), fun p hp => k p _ (Ex.new hp) ?_⟩
      rw [hl]
      exact sqT_new
    · have e0 : ds = [] := List.eq_nil_of_length_eq_zero (by omega)
      subst e0
      refine r_F (decide_eq_false (by omega)) ?_
      repeat walk_at "rd"
      exact ⟨(show 2 ≤ sizeLine by decide), fun p hp => k p _ (Ex.new hp) sqT_new⟩
abbrev s_last_of : Stmt := top 24
theorem sc_last_of : FnScope ["log"] ["log"] (defScope s_last_of) := ⟨rfl, rfl, rfl, by decide +kernel, rfl, by decide +kernel, by decide +kernel⟩
def sp_last_of (K : PySem.W.Frag) : Sp := fun vs H Q E => ∃ u, vs = [u] ∧ ((NoLog K H u ∧ Refuses K "log" H E) ∨ ∃ ds, LogAt K H u ds ∧ ∀ p H', Ex H H' → SqT K H' p ((lastD ds).map V.int) → Q (.ref p) H')
theorem len_last_of (vs : List V) (H : Hp) (Q : VK) (E : XK) (h : sp_last_of K vs H Q E) : vs.length = 1 := by
  obtain ⟨u, rfl, _⟩ := h
  rfl
theorem body_last_of (C : Cx0 K mg base) (O : OBad P w K mg base) : ∀ (f : Addr) (cdv : Value) (A : Around) (outer : List Env) (s : Shared) (H : Hp) (vs : List V) (Q : VK) (E : XK), Room 14 (A.deeper (envOfC "last_of" (defScope s_last_of) s.heap.objs.size f cdv)) → sp_last_of K vs H Q E →
      ∃ t, PSs (cxOf (L2.CX P w) P w K mg base ["log"] "last_of" (defScope s_last_of) f cdv A outer s H E) (defBody s_last_of) t ∧ t { nx := fun _ H' => Q .non H', rt := Q } (start ["log"] vs) H := by
  have c_demand := ok_demand C O
  have c_is_log := ok_is_log (P := P) (w := w) C
  have c_last_in := ok_last_in (P := P) (w := w) C
  refine fun f cdv A outer s H vs Q E hr h => ⟨_,
    (pss_cons (ps_expr (pe_f c_demand hr (by first | decide | omega) (passes_call (takes_of rfl rfl rfl rfl) fun _ _ _ _ h => h) (pa_cons (pe_f c_is_log hr (by first | decide | omega) (passes_call (takes_of rfl rfl rfl rfl) fun _ _ _ _ h => h) (pa_cons (pv 0) pa_nil)) (pa_cons pe_str pa_nil))))
      (pss_one (ps_ret (pe_f c_last_in hr (by first | decide | omega) (passes_call (takes_of rfl rfl rfl rfl) fun _ _ _ _ h => h) (pa_cons (pv 0) pa_nil))))), ?_⟩
  obtain ⟨u, rfl, h⟩ := h
  repeat walk_at "rd"
  rcases h with ⟨⟨p, d1, n1, w1⟩, r⟩ | ⟨ds, h1, k⟩
  · refine ⟨u, _, rfl, d1, w1, fun H1 e1 => ?_⟩
    rw [n1]
    repeat walk_at "rd"
    exact ⟨_, _, rfl, (fun z => nomatch z), fun _ => r.ex e1⟩
  · refine ⟨u, _, rfl, h1.1, h1.2.2, fun H1 e1 => ?_⟩
    rw [h1.2.1]
    repeat walk_at "rd"
    refine ⟨_, _, rfl, fun _ => ?_, fun z => nomatch z⟩
    repeat walk_at "rd"
    exact ⟨u, ds, rfl, h1.ex e1, fun p H2 e2 h2 => k p H2 (e1.trans e2) h2⟩
theorem ok_last_of (C : Cx0 K mg base) (O : OBad P w K mg base) : Cal P w K mg base 15 "last_of" ["log"] (sp_last_of K) := C.cal 13 13 rfl rfl sc_last_of (fun _ _ _ _ _ _ us hl => match us, hl with | [_], _ => rfl) len_last_of (body_last_of C O)
theorem ok_last_ofK (C : Cx0 K mg base) (O : OBad P w K mg base) : CalK P w K mg base 15 "last_of" ["log"] (sp_last_of K) id :=
  C.calK 13 13 (ps := ["log"]) (ks := ["log"]) (g := id) (gV := id) rfl rfl sc_last_of (fun zs ws h => h) (fun _ _ _ _ _ _ ws hl => match ws, hl with | [_], _ => rfl) len_last_of (body_last_of C O)
abbrev s_is_better : Stmt := top 25
theorem sc_is_better : FnScope ["one", "other"] ["one", "other"] (defScope s_is_better) := ⟨rfl, rfl, rfl, by decide +kernel, rfl, by decide +kernel, by decide +kernel⟩
def sp_is_better (K : PySem.W.Frag) : Sp := fun vs H Q E => ∃ u v, vs = [u, v] ∧ ((NoLog K H u ∧ Refuses K "one" H E) ∨ ∃ ds es, LogAt K H u ds ∧ LogAt K H v es ∧ ∀ H', Ex H H' → Q (.bl (decide (lastD es < lastD ds))) H')
theorem ok_is_better (C : Cx0 K mg base) (O : OBad P w K mg base) : Cal P w K mg base 15 "is_better" ["one", "other"] (sp_is_better K) := by
  have c_demand := ok_demand C O
  have c_is_log := ok_is_log (P := P) (w := w) C
  have c_last_in := ok_last_in (P := P) (w := w) C
  refine C.cal 14 14 rfl rfl sc_is_better (fun _ _ _ _ _ _ us hl => match us, hl with | [_, _], _ => rfl) (fun vs H Q E h => ?_) (fun f cdv A outer s H vs Q E hr h => ⟨_,
    (pss_cons (ps_expr (pe_f c_demand hr (by first | decide | omega) (passes_call (takes_of rfl rfl rfl rfl) fun _ _ _ _ h => h) (pa_cons (pe_f c_is_log hr (by first | decide | omega) (passes_call (takes_of rfl rfl rfl rfl) fun _ _ _ _ h => h) (pa_cons (pv 0) pa_nil)) (pa_cons pe_str pa_nil))))
      (pss_cons (ps_expr (pe_f c_demand hr (by first | decide | omega) (passes_call (takes_of rfl rfl rfl rfl) fun _ _ _ _ h => h) (pa_cons (pe_f c_is_log hr (by first | decide | omega) (passes_call (takes_of rfl rfl rfl rfl) fun _ _ _ _ h => h) (pa_cons (pv 1) pa_nil)) (pa_cons pe_str pa_nil))))
      (pss_one (ps_ret (pe_cmpR (k_gt (K := K) rfl hr) (pe_f c_last_in hr (by first | decide | omega) (passes_call (takes_of rfl rfl rfl rfl) fun _ _ _ _ h => h) (pa_cons (pv 0) pa_nil)) (pe_f c_last_in hr (by first | decide | omega) (passes_call (takes_of rfl rfl rfl rfl) fun _ _ _ _ h => h) (pa_cons (pv 1) pa_nil)) (nomark _)))))), ?_⟩)
  · obtain ⟨u, v, rfl, _⟩ := h
    rfl
  · obtain ⟨u, v, rfl, h⟩ := h
    repeat walk_at "rd"
    rcases h with ⟨⟨p, d1, n1, w1⟩, r⟩ | ⟨ds, es, h1, h2, k⟩
    · refine ⟨u, _, rfl, d1, w1, fun H1 e1 => ?_⟩
      rw [n1]
      repeat walk_at "rd"
      exact ⟨_, _, rfl, (fun z => nomatch z), fun _ => r.ex e1⟩
    · refine ⟨u, _, rfl, h1.1, h1.2.2, fun H1 e1 => ?_⟩
      rw [h1.2.1]
      repeat walk_at "rd"
      refine ⟨_, _, rfl, fun _ => ?_, fun z => nomatch z⟩
      repeat walk_at "rd"
      refine ⟨v, _, rfl, Dp.ex e1 h2.1, h2.2.2, fun H2 e2 => ?_⟩
      rw [h2.2.1]
      repeat walk_at "rd"
      refine ⟨_, _, rfl, fun _ => ?_, fun z => nomatch z⟩
      repeat walk_at "rd"
      have e12 := e1.trans e2
      refine ⟨u, ds, rfl, h1.ex e12, fun p H3 e3 hp => ?_⟩
      repeat walk_at "rd"
      refine ⟨v, es, rfl, h2.ex (e12.trans e3), fun q H4 e4 hq => ?_⟩
      refine r_gtTT (sqT_ex e4 hp) hq ?_
      exact k _ ((e12.trans e3).trans e4)
abbrev s_copied_of : Stmt := top 26
theorem sc_copied_of : FnScope ["log", "lead", "same"] ["log", "lead"] (defScope s_copied_of) := ⟨rfl, rfl, rfl, by decide +kernel, rfl, by decide +kernel, by decide +kernel⟩
def sp_copied_of (K : PySem.W.Frag) : Sp := fun vs H Q _ => ∃ a b us ws ds es, vs = [.ref a, .ref b] ∧ SqT K H a us ∧ DpAll K H us ds ∧ SqT K H b ws ∧ DpAll K H ws es ∧ RowOk ds ∧ RowOk es ∧ ∀ p H', Ex H H' → Dp K H' (.ref p) (.tuple (es.take (comN ds es + 1))) → Q (.ref p) H'
theorem ok_copied_of (C : Cx0 K mg base) : CalG P w K mg base 2 "copied_of" ["log", "lead"] (sp_copied_of K) := by
  have c_common_of := ok_common_of (P := P) (w := w) C
  refine C.calG 15 15 rfl rfl sc_copied_of (fun _ _ _ _ _ _ us hl => match us, hl with | [_, _], _ => rfl) (fun vs H Q E h => ?_) (fun f cdv A outer s H vs Q E gd hr h => ⟨_, PSs.nox
    (pss_cons (ps_set (i := 2) sc_copied_of.nd rfl (Or.inl rfl) (pe_fG c_common_of gd hr (by decide) passL (pa_cons (pv 0) (pa_cons (pv 1) pa_nil))))
      (pss_one (ps_ret (pe_slice (k_sl (K := K) rfl) (pv 1) po_none (po_some (pe_op (k_add (K := K) rfl) (pv 2) pe_int)))))), ?_⟩)
  · obtain ⟨a, b, us, ws, ds, es, rfl, _⟩ := h
    rfl
  · obtain ⟨a, b, us, ws, ds, es, rfl, ha, hd, hb, he, o1, o2, k⟩ := h
    repeat walk_at "rd"
    refine ⟨a, b, us, ws, ds, es, rfl, ha, hd, hb, he, o1, o2, fun H1 e1 => ?_⟩
    repeat walk_at "rd"
    refine r_slT (sqT_ex e1 hb) fun p H2 e2 h2 => ?_
    have e12 := e1.trans e2
    refine k p H2 e12 (.tup h2 ?_)
    rw [show ((comN ds es : Nat) : Int) + 1 = ((comN ds es + 1 : Nat) : Int) by omega, cut_lo]
    exact DpA.take (DpA.ex e12 he) _
abbrev s_copied : Stmt := top 27
theorem sc_copied : FnScope ["log", "lead"] ["log", "lead"] (defScope s_copied) := ⟨rfl, rfl, rfl, by decide +kernel, rfl, by decide +kernel, by decide +kernel⟩
def sp_copiedG (K : PySem.W.Frag) : Sp := fun vs H Q _ => ∃ u v ds es, vs = [u, v] ∧ LogAt K H u ds ∧ LogAt K H v es ∧ RowOk ds ∧ RowOk es ∧ ∀ p H', Ex H H' → Dp K H' (.ref p) (.tuple (es.take (comN ds es + 1))) → Q (.ref p) H'
def sp_copiedR (K : PySem.W.Frag) : Sp := fun vs H Q E => ∃ u v, vs = [u, v] ∧ ((NoLog K H u ∧ Refuses K "log" H E) ∨ ∃ ds, LogAt K H u ds ∧ NoLog K H v ∧ Refuses K "lead" H E)
theorem len_copiedG (vs : List V) (H : Hp) (Q : VK) (E : XK) (h : sp_copiedG K vs H Q E) : vs.length = 2 := by
  obtain ⟨u, v, ds, es, rfl, _⟩ := h
  rfl
theorem cr_copied_of (C : Cx0 K mg base) : Cal P w K mg base 2 "copied_of" ["log", "lead"] sp_never :=
  C.cal 15 15 rfl rfl sc_copied_of (fun _ _ _ _ _ _ us hl => match us, hl with | [_, _], _ => rfl) (fun vs H Q E h => h.elim) (fun f cdv A outer s H vs Q E hr h => h.elim)
theorem body_copied (C : Cx0 K mg base) (O : OBad P w K mg base) : ∀ (f : Addr) (cdv : Value) (A : Around) (outer : List Env) (s : Shared) (H : Hp) (vs : List V) (Q : VK) (E : XK), (A.deeper (envOfC "copied" (defScope s_copied) s.heap.objs.size f cdv)).guards = some [] → Room 14 (A.deeper (envOfC "copied" (defScope s_copied) s.heap.objs.size f cdv)) → sp_copiedG K vs H Q E →
      ∃ t, PSs (cxOf (L2.CX P w) P w K mg base ["log", "lead"] "copied" (defScope s_copied) f cdv A outer s H E) (defBody s_copied) t ∧ t { nx := fun _ H' => Q .non H', rt := Q } (start ["log", "lead"] vs) H := by
  have c_demand := ok_demand C O
  have c_is_log := ok_is_log (P := P) (w := w) C
  have c_copied_of := ok_copied_of (P := P) (w := w) C
  refine fun f cdv A outer s H vs Q E gd hr h => ⟨_,
    (pss_cons (ps_expr (pe_f c_demand hr (by first | decide | omega) (passes_call (takes_of rfl rfl rfl rfl) fun _ _ _ _ h => h) (pa_cons (pe_f c_is_log hr (by first | decide | omega) (passes_call (takes_of rfl rfl rfl rfl) fun _ _ _ _ h => h) (pa_cons (pv 0) pa_nil)) (pa_cons pe_str pa_nil))))
      (pss_cons (ps_expr (pe_f c_demand hr (by first | decide | omega) (passes_call (takes_of rfl rfl rfl rfl) fun _ _ _ _ h => h) (pa_cons (pe_f c_is_log hr (by first | decide | omega) (passes_call (takes_of rfl rfl rfl rfl) fun _ _ _ _ h => h) (pa_cons (pv 1) pa_nil)) (pa_cons pe_str pa_nil))))
      (pss_one (ps_ret (pe_fG c_copied_of gd hr (by decide) (passes_call (takes_of rfl rfl rfl rfl) fun _ _ _ _ h => h) (pa_cons (pv 0) (pa_cons (pv 1) pa_nil))))))), ?_⟩
  obtain ⟨u, v, ds, es, rfl, h1, h2, o1, o2, k⟩ := h
  repeat walk_at "rd"
  refine ⟨u, _, rfl, h1.1, h1.2.2, fun H1 e1 => ?_⟩
  rw [h1.2.1]
  repeat walk_at "rd"
  refine ⟨_, _, rfl, fun _ => ?_, fun z => nomatch z⟩
  repeat walk_at "rd"
  refine ⟨v, _, rfl, Dp.ex e1 h2.1, h2.2.2, fun H2 e2 => ?_⟩
  rw [h2.2.1]
  repeat walk_at "rd"
  refine ⟨_, _, rfl, fun _ => ?_, fun z => nomatch z⟩
  repeat walk_at "rd"
  have e12 := e1.trans e2
  obtain ⟨a, us, rfl, ha, hd⟩ := (h1.ex e12).get
  obtain ⟨b, ws, rfl, hb, he⟩ := (h2.ex e12).get
  exact ⟨a, b, us, ws, ds, es, rfl, ha, hd, hb, he, o1, o2, fun p H' e' h' => k p _ (e12.trans e') h'⟩
theorem ok_copied (C : Cx0 K mg base) (O : OBad P w K mg base) : CalG P w K mg base 15 "copied" ["log", "lead"] (sp_copiedG K) := C.calG 16 16 rfl rfl sc_copied (fun _ _ _ _ _ _ us hl => match us, hl with | [_, _], _ => rfl) len_copiedG (body_copied C O)
theorem ok_copiedK (C : Cx0 K mg base) (O : OBad P w K mg base) : CalKG P w K mg base 15 "copied" ["lead", "log"] (sp_copiedG K) rev2 :=
  C.calKG 16 16 (ps := ["log", "lead"]) (ks := ["lead", "log"]) (g := rev2) (gV := rev2) rfl rfl sc_copied (fun zs ws h => by
    match zs, ws, h with
    | [], _, .nil => exact .nil
    | [_], _, .cons a .nil => exact .cons a .nil
    | [_, _], _, .cons a (.cons b .nil) => exact .cons b (.cons a .nil)
    | _ :: _ :: _ :: _, _, .cons a (.cons b (.cons c d)) => exact .cons a (.cons b (.cons c d))) (fun _ _ _ _ _ _ ws hl => match ws, hl with | [_, _], _ => rfl) len_copiedG (body_copied C O)
theorem ok_copiedR (C : Cx0 K mg base) (O : OBad P w K mg base) : Cal P w K mg base 15 "copied" ["log", "lead"] (sp_copiedR K) := by
  have c_demand := ok_demand C O
  have c_is_log := ok_is_log (P := P) (w := w) C
  have cr_copied_of := cr_copied_of (P := P) (w := w) C
  refine C.cal 16 16 rfl rfl sc_copied (fun _ _ _ _ _ _ us hl => match us, hl with | [_, _], _ => rfl) (fun vs H Q E h => ?_) (fun f cdv A outer s H vs Q E hr h => ⟨_,
    (pss_cons (ps_expr (pe_f c_demand hr (by first | decide | omega) (passes_call (takes_of rfl rfl rfl rfl) fun _ _ _ _ h => h) (pa_cons (pe_f c_is_log hr (by first | decide | omega) (passes_call (takes_of rfl rfl rfl rfl) fun _ _ _ _ h => h) (pa_cons (pv 0) pa_nil)) (pa_cons pe_str pa_nil))))
      (pss_cons (ps_expr (pe_f c_demand hr (by first | decide | omega) (passes_call (takes_of rfl rfl rfl rfl) fun _ _ _ _ h => h) (pa_cons (pe_f c_is_log hr (by first | decide | omega) (passes_call (takes_of rfl rfl rfl rfl) fun _ _ _ _ h => h) (pa_cons (pv 1) pa_nil)) (pa_cons pe_str pa_nil))))
      (pss_one (ps_ret (pe_f cr_copied_of hr (by first | decide | omega) (passes_call (takes_of rfl rfl rfl rfl) fun _ _ _ _ h => h) (pa_cons (pv 0) (pa_cons (pv 1) pa_nil))))))), ?_⟩)
  · obtain ⟨u, v, rfl, _⟩ := h
    rfl
  · obtain ⟨u, v, rfl, h⟩ := h
    repeat walk_at "rd"
    rcases h with ⟨⟨p, d1, n1, w1⟩, r⟩ | ⟨ds, h1, ⟨p, d2, n2, w2⟩, r⟩
    · refine ⟨u, _, rfl, d1, w1, fun H1 e1 => ?_⟩
      rw [n1]
      repeat walk_at "rd"
      exact ⟨_, _, rfl, (fun z => nomatch z), fun _ => r.ex e1⟩
    · refine ⟨u, _, rfl, h1.1, h1.2.2, fun H1 e1 => ?_⟩
      rw [h1.2.1]
      repeat walk_at "rd"
      refine ⟨_, _, rfl, fun _ => ?_, fun z => nomatch z⟩
      repeat walk_at "rd"
      refine ⟨v, _, rfl, Dp.ex e1 d2, w2, fun H2 e2 => ?_⟩
      rw [n2]
      repeat walk_at "rd"
      exact ⟨_, _, rfl, (fun z => nomatch z), fun _ => r.ex (e1.trans e2)⟩
end
end K42

namespace K42
/-! drawn data and its sizes -/
def W : Nat → Nat
  | 0 => 300
  | n + 1 => 3 * W n + 3
structure Fine (k : Nat) (p : PyData) : Prop where
  pl : ∀ m, k ≤ m → plainD m p = true
  nl : nl p = true
  lay : p.canLay0 = true
  sh : p.showable = true
  dep : p.depth ≤ k
  wt : p.weight ≤ W k
  short : p.intsShort 40 = true
theorem W_ge (k : Nat) : 300 ≤ W k := by
  induction k with
  | zero => exact Nat.le_refl _
  | succ k ih => show 300 ≤ 3 * W k + 3; omega
theorem all_lay : ∀ {ps : List PyData}, (∀ p ∈ ps, p.canLay0 = true) → PyData.canLayAll0 ps = true
  | [], _ => by simp only [PyData.canLayAll0]
  | p :: ps, h => by simp only [PyData.canLayAll0, h p List.mem_cons_self, all_lay fun q hq => h q (List.mem_cons_of_mem _ hq), Bool.and_self]
theorem all_show : ∀ {ps : List PyData}, (∀ p ∈ ps, p.showable = true) → PyData.showableAll ps = true
  | [], _ => by simp only [PyData.showableAll]
  | p :: ps, h => by simp only [PyData.showableAll, h p List.mem_cons_self, all_show fun q hq => h q (List.mem_cons_of_mem _ hq), Bool.and_self]
theorem all_short : ∀ {ps : List PyData}, (∀ p ∈ ps, p.intsShort 40 = true) → PyData.intsShortAll 40 ps = true
  | [], _ => by simp only [PyData.intsShortAll]
  | p :: ps, h => by simp only [PyData.intsShortAll, h p List.mem_cons_self, all_short fun q hq => h q (List.mem_cons_of_mem _ hq), Bool.and_self]
theorem all_dep {k : Nat} : ∀ {ps : List PyData}, (∀ p ∈ ps, p.depth ≤ k) → PyData.depthAll ps ≤ k
  | [], _ => by simp only [PyData.depthAll]; omega
  | p :: ps, h => by
    have h1 := h p List.mem_cons_self
    have h2 := all_dep (k := k) fun q hq => h q (List.mem_cons_of_mem p hq)
    simp only [PyData.depthAll]; omega
theorem all_wt {k : Nat} : ∀ {ps : List PyData}, (∀ p ∈ ps, p.weight ≤ k) → PyData.weightAll ps ≤ ps.length * (k + 1)
  | [], _ => by simp only [PyData.weightAll]; omega
  | p :: ps, h => by
    have h1 := h p List.mem_cons_self
    have h2 := all_wt (k := k) fun q hq => h q (List.mem_cons_of_mem p hq)
    simp only [PyData.weightAll, List.length_cons, Nat.succ_mul]; omega
theorem Fine.mono {j k : Nat} (h : j ≤ k) {p : PyData} (f : Fine j p) : Fine k p := by
  refine ⟨fun m hm => f.pl m (by omega), f.nl, f.lay, f.sh, Nat.le_trans f.dep h, Nat.le_trans f.wt ?_, f.short⟩
  induction k with
  | zero => rw [Nat.le_zero.mp h]; exact Nat.le_refl _
  | succ k ih =>
    by_cases c : j = k + 1
    · rw [c]; exact Nat.le_refl _
    · have := ih (by omega)
      show W j ≤ 3 * W k + 3
      omega
theorem Fine.tup {k : Nat} {ps : List PyData} (h : ∀ p ∈ ps, Fine k p) (hl : ps.length ≤ 3) : Fine (k + 1) (.tuple ps) := by
  refine ⟨fun m hm => ?_, ?_, ?_, ?_, ?_, ?_, ?_⟩
  · obtain ⟨m, rfl⟩ : ∃ j, m = j + 1 := ⟨m - 1, by omega⟩
    rw [plain_tup, decide_eq_true (by omega), Bool.true_and, List.all_eq_true]
    exact fun p hp => (h p hp).pl m (by omega)
  · simp only [PB.nl]
    exact (nlAll_iff ps).mpr fun p hp => (h p hp).nl
  · simp only [PyData.canLay0]
    exact all_lay fun p hp => (h p hp).lay
  · simp only [PyData.showable]
    exact all_show fun p hp => (h p hp).sh
  · simp only [PyData.depth]
    have := all_dep fun p hp => (h p hp).dep
    omega
  · simp only [PyData.weight]
    refine Nat.le_trans (all_wt fun p hp => (h p hp).wt) ?_
    have : ps.length * (W k + 1) ≤ 3 * (W k + 1) := Nat.mul_le_mul_right _ hl
    show _ ≤ 3 * W k + 3
    omega
  · simp only [PyData.intsShort]
    exact all_short fun p hp => (h p hp).short
theorem Fine.non (k : Nat) : Fine k .none := ⟨fun m _ => plain_non m, by simp only [PB.nl], by simp only [PyData.canLay0], by simp only [PyData.showable], by simp only [PyData.depth]; omega, by simp only [PyData.weight]; omega, by simp only [PyData.intsShort]⟩
theorem Fine.bl (k : Nat) (b : Bool) : Fine k (.bool b) := ⟨fun m _ => plain_bl m b, by simp only [PB.nl], by simp only [PyData.canLay0], by simp only [PyData.showable], by simp only [PyData.depth]; omega, by simp only [PyData.weight]; omega, by simp only [PyData.intsShort]⟩
theorem Fine.int (k : Nat) {i : Int} (h : -1000000000000000000000000000000 < i ∧ i < 1000000000000000000000000000000) : Fine k (.int i) := by
  have hw := W_ge k
  have ha : i.natAbs < 2 ^ 100 := by
    have : (2 : Nat) ^ 100 = 1267650600228229401496703205376 := by decide
    omega
  have hl : i.natAbs.log2 < 100 := by
    by_cases z : i.natAbs = 0
    · rw [z]; decide
    · exact (Nat.log2_lt z).mpr ha
  refine ⟨fun m _ => ?_, by simp only [PB.nl], by simp only [PyData.canLay0], ?_, by simp only [PyData.depth]; omega, ?_, ?_⟩
  · rw [plain_int]
    show (decide _ && decide _) = true
    rw [decide_eq_true h.1, decide_eq_true h.2]; rfl
  · simp only [PyData.showable]
    exact decide_eq_true (by omega)
  · simp only [PyData.weight]
    split <;> omega
  · simp only [PyData.intsShort]
    refine decide_eq_true ?_
    have e := int_text_length_le10 (a := i) (k := 30) (by decide) (by
      have : (10 : Nat) ^ 30 = 1000000000000000000000000000000 := by decide
      omega)
    have e2 : (PyData.shown (.int i)).length = (toString i).length := by
      show (Str.ofString (toString i)).length = _
      rw [PySem.ofString_length]
    omega
def okC (c : Nat) : Bool := signB c && decide (c < 1114112)
theorem Fine.str (k : Nat) {x : Str} (hc : ∀ c ∈ x.cps.toList, okC c = true) (hl : x.length ≤ 60) : Fine k (.str x) := by
  have hw := W_ge k
  have hz : x.cps.size = x.length := rfl
  refine ⟨fun m _ => ?_, by simp only [PB.nl], ?_, by simp only [PyData.showable], by simp only [PyData.depth]; omega, by simp only [PyData.weight]; omega, by simp only [PyData.intsShort]⟩
  · rw [plain_str]
    show (decide (x.length ≤ 60) && x.cps.toList.all signB) = true
    rw [decide_eq_true hl, Bool.true_and, List.all_eq_true]
    intro c h
    have := hc c h
    unfold okC at this
    rw [Bool.and_eq_true] at this
    exact this.1
  · simp only [PyData.canLay0]
    unfold PyData.strOk
    rw [Array.all_eq_true_iff_forall_mem]
    intro c h
    have := hc c (Array.mem_toList_iff.mpr h)
    unfold okC at this
    rw [Bool.and_eq_true, decide_eq_true_eq] at this
    exact decide_eq_true this.2
/-- a row that can be shown -/
theorem Fine.shw {k : Nat} {p : PyData} (f : Fine k p) (hk : k ≤ 50) (hw : W k ≤ 100000) : Shw p := by
  refine ⟨f.sh, PyData.hasDict_of_canLay p f.lay, ?_, by have := f.dep; omega⟩
  have h := PyData.shown_le 40 (by decide) p (PyData.leavesShort_of_canLay0 40 p f.lay f.short)
  have h2 : (40 + 2) * p.weight ≤ 42 * 100000 := Nat.mul_le_mul (by decide) (by have := f.wt; omega)
  have big : 4200040 ≤ sizeLine := by decide
  omega
/-! logs -/
abbrev Ent := Int × PyData
def dE (e : Ent) : PyData := .tuple [.int e.1, e.2]
def dL (l : List Ent) : List PyData := l.map dE
structure GoodL (T : Int) (l : List Ent) : Prop where
  ent : ∀ e ∈ l, 1 ≤ e.1 ∧ e.1 ≤ T ∧ Fine 2 e.2
  asc : (l.map Prod.fst).Pairwise (· ≤ ·)
theorem dE_fine {T : Int} (hT : T ≤ 1000) {l : List Ent} (g : GoodL T l) : ∀ p ∈ dL l, Fine 3 p := fun p hp => by
  obtain ⟨e, he, rfl⟩ := List.mem_map.mp hp
  have h := g.ent e he
  refine Fine.tup (k := 2) (fun q hq => ?_) (by show 2 ≤ 3; decide)
  rcases List.mem_cons.mp hq with rfl | hq
  · exact Fine.int 2 (by omega)
  · rw [List.mem_singleton.mp hq]; exact h.2.2
theorem asc_of : ∀ {l : List Ent}, (l.map Prod.fst).Pairwise (· ≤ ·) → ascD (dL l) = true
  | [], _ => rfl
  | [_], _ => rfl
  | a :: b :: l, h => by
    have ih := asc_of (l := b :: l) (by
      rw [List.map_cons, List.pairwise_cons] at h
      exact h.2)
    rw [List.map_cons, List.pairwise_cons] at h
    have hab : a.1 ≤ b.1 := h.1 b.1 (by rw [List.map_cons]; exact List.mem_cons_self)
    have e : ascD (dL (a :: b :: l)) = (decide (a.1 ≤ b.1) && ascD (dL (b :: l))) := rfl
    rw [e, ih, decide_eq_true hab]; rfl
theorem logD_of {T : Int} (hT : T ≤ 1000) {l : List Ent} (g : GoodL T l) (hl : l.length ≤ 600) : logD (.tuple (dL l)) = true := by
  have e : logD (.tuple (dL l)) = (decide ((dL l).length ≤ 600) && ((dL l).all entD && ascD (dL l))) := rfl
  rw [e, asc_of g.asc, decide_eq_true (by unfold dL; rw [List.length_map]; exact hl), Bool.true_and, Bool.and_true, List.all_eq_true]
  intro p hp
  obtain ⟨e, he, rfl⟩ := List.mem_map.mp hp
  have h := g.ent e he
  show ((decide (1 ≤ e.1) && decide (e.1 ≤ 1000000000)) && plainD 8 e.2) = true
  rw [decide_eq_true h.1, decide_eq_true (by omega), h.2.2.pl 8 (by decide)]; rfl
theorem rowOk_of {T : Int} (hT : T ≤ 1000) {l : List Ent} (g : GoodL T l) (hl : l.length ≤ 600) : RowOk (dL l) := by
  refine ⟨by unfold dL; rw [List.length_map]; omega, fun p hp => ⟨(dE_fine hT g p hp).shw (by decide) (by decide), ?_⟩⟩
  obtain ⟨e, he, rfl⟩ := List.mem_map.mp hp
  exact ⟨_, rfl⟩
theorem wt_of {T : Int} (hT : T ≤ 1000) {l : List Ent} (g : GoodL T l) (hl : l.length ≤ 20) : (PyData.tuple (dL l)).weight ≤ 600000 := by
  simp only [PyData.weight]
  refine Nat.le_trans (all_wt fun p hp => (dE_fine hT g p hp).wt) ?_
  have e : W 3 = 8139 := by decide
  rw [e]
  unfold dL
  rw [List.length_map]
  omega
theorem nl_of {T : Int} (hT : T ≤ 1000) {l : List Ent} (g : GoodL T l) : nlAll (dL l) = true := (nlAll_iff _).mpr fun p hp => (dE_fine hT g p hp).nl
theorem dL_len (l : List Ent) : (dL l).length = l.length := by unfold dL; rw [List.length_map]
theorem dL_app (l m : List Ent) : dL (l ++ m) = dL l ++ dL m := by unfold dL; rw [List.map_append]
/-- whole logs can be shown and compared -/
theorem log_fine {T : Int} (hT : T ≤ 1000) {l : List Ent} (g : GoodL T l) (hl : l.length ≤ 20) : Shw (.tuple (dL l)) := by
  have f := dE_fine hT g
  have hd : PyData.canLay0 (.tuple (dL l)) = true := by
    simp only [PyData.canLay0]
    exact all_lay fun p hp => (f p hp).lay
  refine ⟨?_, PyData.hasDict_of_canLay _ hd, ?_, ?_⟩
  · simp only [PyData.showable]
    exact all_show fun p hp => (f p hp).sh
  · have h := PyData.shown_le 40 (by decide) (.tuple (dL l)) (PyData.leavesShort_of_canLay0 40 _ hd (by simp only [PyData.intsShort]; exact all_short fun p hp => (f p hp).short))
    have h2 := wt_of hT g hl
    have h3 : (40 + 2) * (PyData.tuple (dL l)).weight ≤ 42 * 300000 := Nat.mul_le_mul (by decide) (by
      simp only [PyData.weight]
      refine Nat.le_trans (all_wt fun p hp => (f p hp).wt) ?_
      have e : W 3 = 8139 := by decide
      rw [e, dL_len]
      omega)
    have big : 12600040 ≤ sizeLine := by decide
    omega
  · simp only [PyData.depth]
    have := all_dep fun p hp => (f p hp).dep
    omega
theorem shaped_list {ps : List PyData} {k : Nat} (h : ∀ p ∈ ps, Fine k p) (hk : k ≤ 60) : SeqAt.shaped (.list ps) = true := by
  refine sh_of ?_ ?_
  · simp only [PyData.canLay0]
    exact all_lay fun p hp => (h p hp).lay
  · simp only [PyData.depth]
    have := all_dep fun p hp => (h p hp).dep
    omega
theorem shaped_tup {ps : List PyData} {k : Nat} (h : ∀ p ∈ ps, Fine k p) (hk : k ≤ 60) : SeqAt.shaped (.tuple ps) = true := by
  refine sh_of ?_ ?_
  · simp only [PyData.canLay0]
    exact all_lay fun p hp => (h p hp).lay
  · simp only [PyData.depth]
    have := all_dep fun p hp => (h p hp).dep
    omega
theorem eqvA_nil (ps : List PyData) : PyData.eqvAll ps [] = ps.isEmpty := by
  cases ps with
  | nil => simp [PyData.eqvAll]
  | cons => simp [PyData.eqvAll]
end K42

namespace K42
section
variable {P : Program} {w : World} {K : PySem.W.Frag} {mg : Str → Option Value} {base : Heap}
abbrev s__law_roll : Stmt := top 30
theorem sc__law_roll : FnScope ["dice", "total", "found"] ["dice", "total"] (defScope s__law_roll) := ⟨rfl, rfl, rfl, by decide +kernel, rfl, by decide +kernel, by decide +kernel⟩
def sp_roll : Sp := fun vs H Q _ => ∃ (d : Addr) (t : Int) (n : Nat), vs = [.ref d, .int t] ∧ Dice n H d ∧ n < 1000000000000 ∧ 0 < t ∧ t < 1073741824 ∧
  ∀ r H', 0 ≤ r → r < t → ExB d H H' → Dice (n + 1) H' d → Q (.int r) H'
theorem ok__law_roll (C : Cx0 K mg base) : Cal P w K mg base 1 "_law_roll" ["dice", "total"] sp_roll := by
  refine C.cal 18 18 rfl rfl sc__law_roll (fun _ _ _ _ _ _ us hl => match us, hl with | [_, _], _ => rfl) (fun vs H Q E h => ?_) (fun f cdv A outer s H vs Q E hr h => ⟨_, PSs.nox
    (pss_cons (ps_if (pt_cmpR (k_gt (K := K) rfl hr) (pe_ix (k_ix (K := K) rfl) (pv 0) pe_int (fun _ _ => rfl)) pe_int (nomark _)) (pss_cons (ps_set (i := 2) sc__law_roll.nd rfl (Or.inl rfl) (pe_op op_modN (pe_bt cr_int1 (C.free 36) (by decide +kernel) (pa_cons (pe_ix (k_ix (K := K) rfl) (pv 0) pe_int (fun _ _ => rfl)) pa_nil)) (pv 1)))
      (pss_cons (ps_asg (pe_op op_fdivN (pe_ix (k_ix (K := K) rfl) (pv 0) pe_int (fun _ _ => rfl)) (pv 1)) (pg_sub (pv 0) pe_int set_list))
      (pss_one (ps_ret (pv 2))))) pss_nil)
      (pss_cons (ps_asg (pe_op (k_add (K := K) rfl) (pe_ix (k_ix (K := K) rfl) (pv 0) pe_int (fun _ _ => rfl)) pe_int) (pg_sub (pv 0) pe_int set_list))
      (pss_cons (ps_asg (pe_op op_modN (pe_bt cr_int1 (C.free 36) (by decide +kernel) (pa_cons (pe_op (k_add (K := K) rfl) (pe_op (k_add (K := K) rfl) (pe_op (k_mul (K := K) rfl) (pe_ix (k_ix (K := K) rfl) (pv 0) pe_int (fun _ _ => rfl)) pe_int) (pe_op (k_mul (K := K) rfl) (pe_op (k_mul (K := K) rfl) (pe_ix (k_ix (K := K) rfl) (pv 0) pe_int (fun _ _ => rfl)) (pe_ix (k_ix (K := K) rfl) (pv 0) pe_int (fun _ _ => rfl))) pe_int)) pe_int) pa_nil)) pe_int) (pg_sub (pv 0) pe_int set_list))
      (pss_one (ps_ret (pe_op op_modN (pe_bt cr_int1 (C.free 36) (by decide +kernel) (pa_cons (pe_op op_fdivN (pe_ix (k_ix (K := K) rfl) (pv 0) pe_int (fun _ _ => rfl)) pe_int) pa_nil)) (pv 1))))))), ?_⟩)
  · obtain ⟨d, t, n, rfl, _⟩ := h
    rfl
  · obtain ⟨d, t, n, rfl, ⟨x, y, z, hd, x0, y0, y1, z0, z1⟩, hn, t0, t1, k⟩ := h
    repeat walk_at "rd"
    refine r_ixLI (i := 0) (sqL_of hd) rfl ?_
    repeat walk_at "rd"
    by_cases c : 0 < x
    · refine r_T (decide_eq_true c) ?_
      repeat walk_at "rd"
      refine r_ixLI (i := 0) (sqL_of hd) rfl ?_
      repeat walk_at "rd"
      refine r_modI (by omega) ?_
      repeat walk_at "rd"
      refine r_ixLI (i := 0) (sqL_of hd) rfl ?_
      repeat walk_at "rd"
      refine r_divI ⟨by omega, by omega⟩ ?_
      repeat walk_at "rd"
      refine r_setL (i := 0) hd (show 0 < 3 by decide) ?_
      repeat walk_at "rd"
      rw [Int.fmod_eq_emod_of_nonneg _ (by omega), Int.fdiv_eq_ediv_of_nonneg _ (by omega)]
      exact k _ _ (Int.emod_nonneg _ (by omega)) (Int.emod_lt_of_pos _ t0) ExB.put ⟨x / t, y, z, upd_same, Int.ediv_nonneg x0 (by omega), y0, y1, z0, by omega⟩
    · refine r_F (decide_eq_false c) ?_
      repeat walk_at "rd"
      refine r_ixLI (i := 2) (sqL_of hd) rfl ?_
      repeat walk_at "rd"
      refine r_setL (i := 2) hd (show 2 < 3 by decide) ?_
      repeat walk_at "rd"
      have h1 : upd H d (.lst (List.set ([x, y, z].map V.int) 2 (.int (z + 1)))) d = some (.lst ([x, y, z + 1].map V.int)) := upd_same
      refine r_ixLI (i := 1) (sqL_of h1) rfl ?_
      repeat walk_at "rd"
      refine r_mulI (.inr (by omega)) ?_
      repeat walk_at "rd"
      refine r_ixLI (i := 2) (sqL_of h1) rfl ?_
      repeat walk_at "rd"
      refine r_ixLI (i := 2) (sqL_of h1) rfl ?_
      repeat walk_at "rd"
      refine r_mulI (.inr (by omega)) ?_
      repeat walk_at "rd"
      refine r_mulI (.inr (by omega)) ?_
      repeat walk_at "rd"
      refine r_modI (by decide) ?_
      repeat walk_at "rd"
      refine r_setL (i := 1) h1 (show 1 < 3 by decide) ?_
      repeat walk_at "rd"
      rw [Int.fmod_eq_emod_of_nonneg _ (by decide)]
      obtain ⟨u, eu⟩ : ∃ u, u = (y * 52501 + (z + 1) * (z + 1) * 1009 + 77) % 2147480009 := ⟨_, rfl⟩
      rw [← eu]
      have u0 : 0 ≤ u := by rw [eu]; exact Int.emod_nonneg _ (by decide)
      have u1 : u < 2147480009 := by rw [eu]; exact Int.emod_lt_of_pos _ (by decide)
      have h2 : ∀ H0 : Hp, upd H0 d (.lst (List.set ([x, y, z + 1].map V.int) 1 (.int u))) d = some (.lst ([x, u, z + 1].map V.int)) := fun _ => upd_same
      refine r_ixLI (i := 1) (sqL_of (h2 _)) rfl ?_
      repeat walk_at "rd"
      refine r_divI ⟨by decide, by decide⟩ ?_
      repeat walk_at "rd"
      refine r_modI (by omega) ?_
      repeat walk_at "rd"
      rw [Int.fmod_eq_emod_of_nonneg _ (by omega)]
      exact k _ _ (Int.emod_nonneg _ (by omega)) (Int.emod_lt_of_pos _ t0) (ExB.trans ExB.put ExB.put) ⟨x, u, z + 1, h2 _, x0, u0, u1, by omega, by omega⟩
abbrev s__law_pick : Stmt := top 31
theorem sc__law_pick : FnScope ["dice", "things"] ["dice", "things"] (defScope s__law_pick) := ⟨rfl, rfl, rfl, by decide +kernel, rfl, by decide +kernel, by decide +kernel⟩
def sp_pick (K : PySem.W.Frag) : Sp := fun vs H Q _ => ∃ (d a : Addr) (k : Sk) (xs : List V) (n : Nat), vs = [.ref d, .ref a] ∧ Dice n H d ∧ n < 1000000000000 ∧ a ≠ d ∧ k.at K H a xs ∧ 0 < xs.length ∧ xs.length < 1000000 ∧
  ∀ (i : Nat) v H', xs[i]? = some v → ExB d H H' → Dice (n + 1) H' d → Q v H'
theorem ok__law_pick (C : Cx0 K mg base) : Cal P w K mg base 2 "_law_pick" ["dice", "things"] (sp_pick K) := by
  have c__law_roll := ok__law_roll (P := P) (w := w) C
  refine C.cal 19 19 rfl rfl sc__law_pick (fun _ _ _ _ _ _ us hl => match us, hl with | [_, _], _ => rfl) (fun vs H Q E h => ?_) (fun f cdv A outer s H vs Q E hr h => ⟨_, PSs.nox
    (pss_one (ps_ret (pe_ix (k_ix (K := K) rfl) (pv 1) (pe_f c__law_roll hr (by first | decide | omega) passL (pa_cons (pv 0) (pa_cons (pe_bi (k_len (K := K) rfl) (C.free 38) (by decide +kernel) (pa_cons (pv 1) pa_nil)) pa_nil))) (fun _ _ => rfl)))), ?_⟩)
  · obtain ⟨d, a, k, xs, n, rfl, _⟩ := h
    rfl
  · obtain ⟨d, a, k, xs, n, rfl, hd, hn, ne, ha, l0, l1, q⟩ := h
    repeat walk_at "rd"
    refine r_lenS ha ?_
    repeat walk_at "rd"
    refine ⟨d, _, n, rfl, hd, hn, by omega, by omega, fun r H' r0 r1 e h' => ?_⟩
    obtain ⟨i, rfl⟩ := Int.eq_ofNat_of_zero_le r0
    have hi : i < xs.length := by omega
    exact r_ixS (k.exb e ne ha) (List.getElem?_eq_getElem hi) (q i _ H' (List.getElem?_eq_getElem hi) e h')
abbrev s__law_dice : Stmt := top 29
theorem sc__law_dice : FnScope ["script", "spot", "own", "mixed", "cell"] ["script", "spot"] (defScope s__law_dice) := ⟨rfl, rfl, rfl, by decide +kernel, rfl, by decide +kernel, by decide +kernel⟩
def sp_dice (K : PySem.W.Frag) : Sp := fun vs H Q _ => ∃ (a : Addr) (ns : List Int) (spot : Int), vs = [.ref a, .int spot] ∧ SqL K H a (ns.map V.int) ∧ 0 ≤ spot ∧ spot < 1000 ∧ ns.length ≤ 1000 ∧ ∀ p H', Ex H H' → H p = none → Dice 0 H' p → Q (.ref p) H'
theorem ok__law_dice (C : Cx0 K mg base) : Cal P w K mg base 1 "_law_dice" ["script", "spot"] (sp_dice K) := by
  refine C.cal 17 17 rfl rfl sc__law_dice (fun _ _ _ _ _ _ us hl => match us, hl with | [_, _], _ => rfl) (fun vs H Q E h => ?_) (fun f cdv A outer s H vs Q E hr h => ⟨_, PSs.nox
    (pss_cons (ps_set (i := 2) sc__law_dice.nd rfl (Or.inl rfl) (pe_ifExp (pt_cmpR (k_lt (K := K) rfl hr) (pv 1) (pe_bi (k_len (K := K) rfl) (C.free 38) (by decide +kernel) (pa_cons (pv 0) pa_nil)) (nomark _)) (pe_ix (k_ix (K := K) rfl) (pv 0) (pv 1) (fun _ _ => rfl)) (pe_op (k_add (K := K) rfl) (pe_op (k_mul (K := K) rfl) pe_int (pv 1)) pe_int)))
      (pss_cons (ps_set (i := 3) sc__law_dice.nd rfl (Or.inl rfl) (pe_op (k_add (K := K) rfl) pe_int (pe_op (k_mul (K := K) rfl) pe_int (pv 1))))
      (pss_cons (ps_for PassesOwn.never rfl (k_seq (K := K) rfl (pe_op (k_add (K := K) rfl) (pe_slice (k_sl (K := K) rfl) (pv 0) po_none (po_some pe_int)) (pe_lst (pa_cons (pv 2) pa_nil)))) (pg_name (i := 4) sc__law_dice.nd rfl (Or.inl rfl))
      (pss_one (ps_set (i := 3) sc__law_dice.nd rfl (Or.inl rfl) (pe_op op_modN (pe_bt cr_int1 (C.free 36) (by decide +kernel) (pa_cons (pe_op (k_add (K := K) rfl) (pe_op (k_mul (K := K) rfl) (pv 3) pe_int) (pe_op op_modN (pe_bt cr_int1 (C.free 36) (by decide +kernel) (pa_cons (pv 4) pa_nil)) pe_int)) pa_nil)) pe_int))))
      (pss_one (ps_ret (pe_lst (pa_cons (pe_ifExp (PW.pt (pw_or (pt_cmpR (k_lt (K := K) rfl hr) (pv 2) pe_int (nomark _)) (pw_or1 (pt_cmpR (k_ge (K := K) rfl hr) (pv 2) (pe_op op_pow pe_int pe_int) (nomark _))))) (pe_bi cr_abs (C.free 42) (by decide +kernel) (pa_cons (pv 2) pa_nil)) pe_int) (pa_cons (pv 3) (pa_cons pe_int pa_nil))))))))), ?_⟩)
  · obtain ⟨a, ns, spot, rfl, _⟩ := h
    rfl
  · obtain ⟨a, ns, spot, rfl, ha, s0, s1, nl, k⟩ := h
    obtain ⟨sp, rfl⟩ := Int.eq_ofNat_of_zero_le s0
    repeat walk_at "rd"
    refine r_lenLI ha ?_
    repeat walk_at "rd"
    refine r_split (fun own => ?_) (fun c main => ?_) (fun c main => ?_)
    · repeat walk_at "rd"
      refine r_mulI (.inl (by omega)) ?_
      repeat walk_at "rd"
      refine r_slL ha fun p hp => ?_
      repeat walk_at "rd"
      obtain ⟨m, n, ec⟩ := cut_map (ns := ns) none (some 6)
      rw [ec]
      refine ⟨(show 1 ≤ sizeLine by decide), fun q hq => ?_⟩
      have hp1 : upd (upd H p (.lst (((ns.drop m).take n).map V.int))) q (.lst [.int own]) p = some (.lst (((ns.drop m).take n).map V.int)) := at_up hq upd_same
      refine r_catL (xs := ((ns.drop m).take n).map V.int) (ys := [.int own]) hp1 upd_same ?_ fun r hr2 => ?_
      · rw [List.length_map, List.length_take, List.length_drop, List.length_singleton]
        have : 1001 ≤ sizeLine := by decide
        omega
      have er : Ex H (upd (upd (upd H p (.lst (((ns.drop m).take n).map V.int))) q (.lst [.int own])) r (.lst (((ns.drop m).take n).map V.int ++ [.int own]))) := ((Ex.new hp).trans (Ex.new hq)).trans (Ex.new hr2)
      refine f_seq (k := .l) sqL_new (fun i σ H' => ∃ mixed : Int, ∃ x4, σ = [some (.ref a), some (.int (sp : Nat)), some (.int own), some (.int mixed), x4] ∧ 0 ≤ mixed ∧ mixed < 2147480009 ∧ Ex _ H') ⟨_, _, rfl, by omega, by omega, Ex.refl _⟩ (fun i σ H' _ p => sqL_ex p.choose_spec.choose_spec.2.2.2 sqL_new) ?_ ?_
      · rintro i x σ H' hx ⟨mixed, x4, rfl, m0, m1, e⟩
        have hint : ∃ j, x = .int j := by
          have := List.mem_of_getElem? hx
          rw [List.mem_append, List.mem_singleton, List.mem_map] at this
          rcases this with ⟨j, _, rfl⟩ | rfl
          · exact ⟨j, rfl⟩
          · exact ⟨_, rfl⟩
        obtain ⟨j, rfl⟩ := hint
        repeat walk_at "rd"
        refine r_mulI (.inr (by omega)) ?_
        repeat walk_at "rd"
        refine r_modI (by decide) ?_
        repeat walk_at "rd"
        refine r_modI (by decide) ?_
        repeat walk_at "rd"
        exact ⟨_, _, rfl, by rw [Int.fmod_eq_emod_of_nonneg _ (by decide)]; exact Int.emod_nonneg _ (by decide), by rw [Int.fmod_eq_emod_of_nonneg _ (by decide)]; exact Int.emod_lt_of_pos _ (by decide), e⟩
      · rintro σ H' ⟨mixed, x4, rfl, m0, m1, e⟩
        have fin : ∀ x : Int, 0 ≤ x → (3 ≤ sizeLine ∧ ∀ p, H' p = none → Q (.ref p) (upd H' p (.lst [.int x, .int mixed, .int 0]))) := fun x hx => ⟨(show 3 ≤ sizeLine by decide), fun p hp =>
          k p _ ((er.trans e).add hp) ((er.trans e).free hp) ⟨x, mixed, 0, upd_same, hx, m0, m1, by decide, by decide⟩⟩
        repeat walk_at "rd"
        by_cases c : own < 0
        · refine r_T (decide_eq_true c) ?_
          repeat walk_at "rd"
          refine r_abs ?_
          repeat walk_at "rd"
          exact fin _ (by split <;> omega)
        · refine r_F (decide_eq_false c) ?_
          repeat walk_at "rd"
          refine r_powI ⟨by decide, by decide, by decide⟩ ?_
          repeat walk_at "rd"
          refine r_D (fun c2 => ?_) (fun c2 => ?_)
          · repeat walk_at "rd"
            refine r_abs ?_
            repeat walk_at "rd"
            exact fin _ (by split <;> omega)
          · repeat walk_at "rd"
            exact fin 0 (by omega)
    · repeat walk_at "rd"
      have hs : ns[sp]? = some ns[sp] := List.getElem?_eq_getElem (by omega)
      exact r_ixLI ha hs (main ns[sp])
    · repeat walk_at "rd"
      refine r_mulI (.inl (by omega)) (r_addI ?_)
      exact main _

def sp_pickZ : Sp := fun vs H Q _ => ∃ (d : Addr) (x : Str) (n : Nat), vs = [.ref d, .str x] ∧ Dice n H d ∧ n < 1000000000000 ∧ 0 < x.cps.size ∧ x.cps.size < 1000000 ∧ ∀ c H', c ∈ x.cps.toList → ExB d H H' → Dice (n + 1) H' d → Q (.str ⟨#[c]⟩) H'
theorem ok__law_pickZ (C : Cx0 K mg base) : Cal P w K mg base 2 "_law_pick" ["dice", "things"] sp_pickZ := by
  have c__law_roll := ok__law_roll (P := P) (w := w) C
  refine C.cal 19 19 rfl rfl sc__law_pick (fun _ _ _ _ _ _ us hl => match us, hl with | [_, _], _ => rfl) (fun vs H Q E h => ?_) (fun f cdv A outer s H vs Q E hr h => ⟨_, PSs.nox
    (pss_one (ps_ret (pe_ix (k_ix (K := K) rfl) (pv 1) (pe_f c__law_roll hr (by first | decide | omega) passL (pa_cons (pv 0) (pa_cons (pe_bi (k_len (K := K) rfl) (C.free 38) (by decide +kernel) (pa_cons (pv 1) pa_nil)) pa_nil))) (fun _ _ => rfl)))), ?_⟩)
  · obtain ⟨d, x, n, rfl, _⟩ := h
    rfl
  · obtain ⟨d, x, n, rfl, hd, hn, l0, l1, q⟩ := h
    have big : 1000000 ≤ sizeLine := by decide
    have hz : x.length = x.cps.size := rfl
    repeat walk_at "rd"
    refine r_lenZ (by omega) ?_
    repeat walk_at "rd"
    refine ⟨d, _, n, rfl, hd, hn, by omega, by omega, fun r H' r0 r1 e h' => ?_⟩
    obtain ⟨i, rfl⟩ := Int.eq_ofNat_of_zero_le r0
    have hi : i < x.cps.toList.length := by rw [Array.length_toList]; omega
    have hx : x.cps.toList[i]? = some x.cps.toList[i] := List.getElem?_eq_getElem hi
    refine .inr (.inr ⟨x, (i : Nat), x.cps.toList[i], rfl, rfl, by omega, ?_, q _ H' (List.mem_of_getElem? hx) e h'⟩)
    unfold atI ixN
    rw [if_pos (by omega), if_pos (by omega)]
    show x.cps.toList[((i : Nat) : Int).toNat]? = _
    rw [Int.toNat_natCast]
    exact hx
/-- single signs joined -/
theorem join_codes (cs : List Nat) : (Txt.join "" (cs.map fun c => (⟨#[c]⟩ : Str))).cps.toList = cs := by
  have e := TL.tl_join "" (cs.map fun c => (⟨#[c]⟩ : Str))
  have e0 : TL.tl ("" : Str) = [] := rfl
  have ej : ∀ l : List Nat, TL.joinL [] ((l.map fun c => (⟨#[c]⟩ : Str)).map TL.tl) = l := fun l => by
    induction l with
    | nil => rfl
    | cons a l ih =>
      cases l with
      | nil => rfl
      | cons b l =>
        show [a] ++ ([] ++ TL.joinL [] (((b :: l).map fun c => (⟨#[c]⟩ : Str)).map TL.tl)) = _
        rw [ih]; rfl
  rw [TL.join_eq]
  rw [e0, ej] at e
  exact e
theorem join_len (cs : List Nat) : ((cs.map fun c => (⟨#[c]⟩ : Str)).map (·.length)).sum = cs.length := by
  induction cs with
  | nil => rfl
  | cons a l ih =>
    rw [List.map_cons, List.map_cons, List.sum_cons, ih, List.length_cons]
    show 1 + l.length = _
    omega
theorem r_ifC {σ : St} {H : Hp} {Q : VK} {b : Bool} {x y : V} (h : Q (if b = true then x else y) H) : if b = true then tC x σ H Q else tC y σ H Q := by
  cases b
  · rw [if_neg Bool.false_ne_true] at h ⊢
    exact h
  · rw [if_pos rfl] at h ⊢
    exact h
def NR : Nat → Nat
  | 0 => 100
  | k + 1 => 3 * NR k + 100
theorem NR_ge (k : Nat) : 100 ≤ NR k := by
  cases k with
  | zero => exact Nat.le_refl _
  | succ k => show 100 ≤ 3 * NR k + 100; omega
theorem sgCodes : ∀ {ps : List PyData}, (∀ p ∈ ps, ∃ c, okC c = true ∧ p = .str ⟨#[c]⟩) → ∃ cs : List Nat, ps = (cs.map fun c => (⟨#[c]⟩ : Str)).map .str ∧ ∀ c ∈ cs, okC c = true
  | [], _ => ⟨[], rfl, fun c h => nomatch h⟩
  | p :: ps, h => by
    obtain ⟨c, hc, rfl⟩ := h p List.mem_cons_self
    obtain ⟨cs, rfl, hcs⟩ := sgCodes fun q hq => h q (List.mem_cons_of_mem _ hq)
    refine ⟨c :: cs, rfl, fun x hx => ?_⟩
    rcases List.mem_cons.mp hx with rfl | hx
    · exact hc
    · exact hcs x hx
theorem signs_ok : ∀ c ∈ ("ab ~!Z9" : Str).cps.toList, okC c = true := by decide +kernel
abbrev s__law_plain : Stmt := top 32
theorem sc__law_plain : FnScope ["dice", "deep", "lot", "turn"] ["dice", "deep"] (defScope s__law_plain) := ⟨rfl, rfl, rfl, by decide +kernel, rfl, by decide +kernel, by decide +kernel⟩
def sp_law_plain (K : PySem.W.Frag) (b : Nat) : Sp := fun vs H Q _ => ∃ (d : Addr) (n k : Nat), k < b ∧ vs = [.ref d, .int (k : Nat)] ∧ Dice n H d ∧ n + NR k < 1000000000000 ∧ ∀ v p H', ExB d H H' → Dice (n + NR k) H' d → Dp K H' v p → Fine k p → Q v H'
theorem ok__law_plain (C : Cx0 K mg base) (b : Nat) : Cal P w K mg base (b + 3) "_law_plain" ["dice", "deep"] (sp_law_plain K b) := by
  induction b with
  | zero => exact C.cal 20 20 rfl rfl sc__law_plain (fun _ _ _ _ _ _ us hl => match us, hl with | [_, _], _ => rfl) (fun vs H Q E h => by obtain ⟨d, n, k, h, _⟩ := h; omega) (fun f cdv A outer s H vs Q E hr h => by obtain ⟨d, n, k, h, _⟩ := h; omega)
  | succ b c__law_plain =>
    have c__law_roll := ok__law_roll (P := P) (w := w) C
    have c__law_pick := ok__law_pick (P := P) (w := w) C
    have c__law_pickZ := ok__law_pickZ (P := P) (w := w) C
    refine C.cal 20 20 rfl rfl sc__law_plain (fun _ _ _ _ _ _ us hl => match us, hl with | [_, _], _ => rfl) (fun vs H Q E h => ?_) (fun f cdv A outer s H vs Q E hr h => ⟨_, PSs.nox
      (pss_cons (ps_set (i := 2) sc__law_plain.nd rfl (Or.inl rfl) (pe_f c__law_roll hr (by first | decide | omega) passL (pa_cons (pv 0) (pa_cons (pe_ifExp (pt_cmpR (k_gt (K := K) rfl hr) (pv 1) pe_int (nomark _)) pe_int pe_int) pa_nil))))
      (pss_cons (ps_if (pt_cmpR (k_lt (K := K) rfl hr) (pv 2) pe_int (nomark _)) (pss_one (ps_ret (pe_f c__law_pick hr (by first | decide | omega) passL (pa_cons (pv 0) (pa_cons (pe_lst (pa_cons pe_non (pa_cons pe_bl (pa_cons pe_bl pa_nil)))) pa_nil))))) pss_nil)
      (pss_cons (ps_if (pt_cmpR (k_lt (K := K) rfl hr) (pv 2) pe_int (nomark _)) (pss_one (ps_ret (pe_f c__law_pick hr (by first | decide | omega) passL (pa_cons (pv 0) (pa_cons (pe_lst (pa_cons pe_int (pa_cons pe_int (pa_cons (pe_un un_neg pe_int) (pa_cons pe_int (pa_cons (pe_op op_sub (pe_op op_pow pe_int pe_int) pe_int) (pa_cons (pe_op op_sub pe_int (pe_op op_pow pe_int pe_int)) (pa_cons (pe_op op_sub (pe_f c__law_roll hr (by first | decide | omega) passL (pa_cons (pv 0) (pa_cons pe_int pa_nil))) pe_int) pa_nil)))))))) pa_nil))))) pss_nil)
      (pss_cons (ps_if (pt_cmpR (k_lt (K := K) rfl hr) (pv 2) pe_int (nomark _)) (pss_one (ps_ret (k_join (K := K) rfl pe_str (pe_lc (own := [("turn", 3)]) rfl sc__law_plain.nd (pi_range1 rfl (C.free 34) (pa_cons (pe_f c__law_pick hr (by first | decide | omega) passL (pa_cons (pv 0) (pa_cons (pe_lst (pa_cons pe_int (pa_cons pe_int (pa_cons pe_int (pa_cons pe_int (pa_cons pe_int pa_nil)))))) pa_nil))) pa_nil)) (blkOk_by (N := ["dice", "deep", "lot", "turn"]) (sc := defScope s__law_plain) (by decide +kernel)) (fun _ _ _ _ _ => (pg_name (i := 3) sc__law_plain.nd rfl (Or.inl rfl))) (fun _ _ _ _ _ => pts_nil) (fun _ _ _ _ _ => (pe_f c__law_pickZ hr (by first | decide | omega) passL (pa_cons (pv 0) (pa_cons pe_str pa_nil)))))))) pss_nil)
      (pss_one (ps_ret (pe_bt (k_tuple (K := K) rfl) (C.free 33) (by decide +kernel) (pa_cons (pe_lc (own := [("turn", 3)]) rfl sc__law_plain.nd (pi_range1 rfl (C.free 34) (pa_cons (pe_f c__law_pick hr (by first | decide | omega) passL (pa_cons (pv 0) (pa_cons (pe_lst (pa_cons pe_int (pa_cons pe_int (pa_cons pe_int (pa_cons pe_int pa_nil))))) pa_nil))) pa_nil)) (blkOk_by (N := ["dice", "deep", "lot", "turn"]) (sc := defScope s__law_plain) (by decide +kernel)) (fun _ _ _ _ _ => (pg_name (i := 3) sc__law_plain.nd rfl (Or.inl rfl))) (fun _ _ _ _ _ => pts_nil) (fun _ _ _ _ _ => (pe_f c__law_plain hr (by first | decide | omega) passL (pa_cons (pv 0) (pa_cons (pe_op op_sub (pv 1) pe_int) pa_nil))))) pa_nil)))))))), ?_⟩)
    · obtain ⟨d, n, k, _, rfl, _⟩ := h
      rfl
    · obtain ⟨d, n, k, hk, rfl, hd, hn, q⟩ := h
      have nr := NR_ge k
      repeat walk_at "rd"
      refine r_ifC ?_
      obtain ⟨t, et, t0, t1, tk⟩ : ∃ t : Int, (if decide ((0 : Int) < (k : Nat)) = true then V.int 9 else V.int 7) = .int t ∧ 7 ≤ t ∧ t ≤ 9 ∧ (k = 0 → t = 7) := by
        by_cases c : (0 : Int) < (k : Nat)
        · exact ⟨9, by rw [if_pos (decide_eq_true c)], by decide, by decide, fun z => by omega⟩
        · exact ⟨7, by rw [if_neg (by rw [decide_eq_false c]; exact Bool.false_ne_true)], by decide, by decide, fun _ => rfl⟩
      rw [et]
      refine ⟨d, t, n, rfl, hd, by omega, by omega, by omega, fun lot H1 l0 l1 e1 d1 => ?_⟩
      repeat walk_at "rd"
      by_cases c1 : lot < 2
      · refine r_T (decide_eq_true c1) ?_
        repeat walk_at "rd"
        refine ⟨(show 3 ≤ sizeLine by decide), fun p hp => ?_⟩
        repeat walk_at "rd"
        refine ⟨d, p, .l, _, _, rfl, d1.fresh hp, by omega, d1.ne hp, sqL_new, (show 0 < 3 by decide), (show 3 < 1000000 by decide), fun i v H2 hv e2 d2 => ?_⟩
        have ee : ExB d H H2 := (e1.trans (ExB.of (Ex.new hp))).trans e2
        have dd := d2.mono (show n + 1 + 1 ≤ n + NR k by omega)
        match i, hv with
        | 0, hv => cases hv; exact q _ _ _ ee dd .non (Fine.non k)
        | 1, hv => cases hv; exact q _ _ _ ee dd (.bl _) (Fine.bl k _)
        | 2, hv => cases hv; exact q _ _ _ ee dd (.bl _) (Fine.bl k _)
        | i + 3, hv => cases hv
      refine r_F (decide_eq_false c1) ?_
      repeat walk_at "rd"
      by_cases c2 : lot < 4
      · refine r_T (decide_eq_true c2) ?_
        repeat walk_at "rd"
        refine r_powI ⟨by decide, by decide, by decide⟩ ?_
        repeat walk_at "rd"
        refine r_powI ⟨by decide, by decide, by decide⟩ ?_
        repeat walk_at "rd"
        refine ⟨d, 1000, _, rfl, d1, by omega, by decide, by decide, fun r H2 r0 r1 e2 d2 => ?_⟩
        repeat walk_at "rd"
        refine ⟨(show 7 ≤ sizeLine by decide), fun p hp => ?_⟩
        repeat walk_at "rd"
        refine ⟨d, p, .l, _, _, rfl, d2.fresh hp, by omega, d2.ne hp, sqL_new, (show 0 < 7 by decide), (show 7 < 1000000 by decide), fun i v H3 hv e3 d3 => ?_⟩
        have ee : ExB d H H3 := ((e1.trans e2).trans (ExB.of (Ex.new hp))).trans e3
        have dd := d3.mono (show n + 1 + 1 + 1 ≤ n + NR k by omega)
        match i, hv with
        | 0, hv => cases hv; exact q _ _ _ ee dd (.int _) (Fine.int k (by decide))
        | 1, hv => cases hv; exact q _ _ _ ee dd (.int _) (Fine.int k (by decide))
        | 2, hv => cases hv; exact q _ _ _ ee dd (.int _) (Fine.int k (by decide))
        | 3, hv => cases hv; exact q _ _ _ ee dd (.int _) (Fine.int k (by decide))
        | 4, hv => cases hv; exact q _ _ _ ee dd (.int _) (Fine.int k (by decide))
        | 5, hv => cases hv; exact q _ _ _ ee dd (.int _) (Fine.int k (by decide))
        | 6, hv => cases hv; exact q _ _ _ ee dd (.int _) (Fine.int k (by omega))
        | i + 7, hv => cases hv
      refine r_F (decide_eq_false c2) ?_
      repeat walk_at "rd"
      by_cases c3 : lot < 7
      · refine r_T (decide_eq_true c3) ?_
        repeat walk_at "rd"
        refine ⟨⟨_, rfl⟩, ?_⟩
        repeat walk_at "rd"
        refine ⟨(show 5 ≤ sizeLine by decide), fun p hp => ?_⟩
        repeat walk_at "rd"
        refine ⟨d, p, .l, _, _, rfl, d1.fresh hp, by omega, d1.ne hp, sqL_new, (show 0 < 5 by decide), (show 5 < 1000000 by decide), fun i v H2 hv e2 d2 => ?_⟩
        have ee : ExB d H H2 := (e1.trans (ExB.of (Ex.new hp))).trans e2
        obtain ⟨m, rfl, m1⟩ : ∃ m : Nat, v = .int (m : Nat) ∧ m ≤ 60 := by
          match i, hv with
          | 0, hv => cases hv; exact ⟨0, rfl, by decide⟩
          | 1, hv => cases hv; exact ⟨1, rfl, by decide⟩
          | 2, hv => cases hv; exact ⟨2, rfl, by decide⟩
          | 3, hv => cases hv; exact ⟨5, rfl, by decide⟩
          | 4, hv => cases hv; exact ⟨60, rfl, by decide⟩
          | i + 5, hv => cases hv
        refine n_1 (by omega) ?_
        rw [Int.toNat_natCast]
        refine c_diceD (K := K) (F := fun p => ∃ c, okC c = true ∧ p = .str ⟨#[c]⟩) (N := 1) (fun p ⟨c, _, e⟩ => by rw [e]; simp only [PB.nl]) d2 (by omega) (fun _ => rfl) ?_ ?_
        · intro i H3 q3 M hi e3 d3 hq
          repeat walk_at "rd"
          exact ⟨d, _, _, rfl, d3, by omega, (show 0 < 7 by decide), (show 7 < 1000000 by decide), fun c H4 hc e4 d4 => hq _ _ H4 (.str _) ⟨c, signs_ok c hc, rfl⟩ e4 d4⟩
        · intro L H3 us ps hL ne e3 h3 a3 lp fp d3
          obtain ⟨cs, rfl, hcs⟩ := sgCodes fp
          obtain rfl := DpA.strs a3
          have lc : cs.length = m := by rw [← lp, List.length_map, List.length_map]
          refine ⟨"", L, _, rfl, rfl, .inl (sqL_of h3), ?_, q _ _ _ (ee.trans e3) (d3.mono (by omega)) (.str _) (Fine.str k (fun c hc => hcs c ?_) ?_)⟩
          · rw [join_len, List.length_map]
            show cs.length + cs.length * 0 ≤ _
            omega
          · rw [join_codes] at hc
            exact hc
          · show (Txt.join "" (cs.map fun c => (⟨#[c]⟩ : Str))).cps.size ≤ 60
            rw [← Array.length_toList, join_codes]
            omega
      · refine r_F (decide_eq_false c3) ?_
        have k1 : k ≠ 0 := fun z => by have := tk z; omega
        obtain ⟨j, rfl⟩ : ∃ j, k = j + 1 := ⟨k - 1, by omega⟩
        have nrj := NR_ge j
        have enr : NR (j + 1) = 3 * NR j + 100 := rfl
        repeat walk_at "rd"
        refine ⟨(show 4 ≤ sizeLine by decide), fun p hp => ?_⟩
        repeat walk_at "rd"
        refine ⟨d, p, .l, _, _, rfl, d1.fresh hp, by omega, d1.ne hp, sqL_new, (show 0 < 4 by decide), (show 4 < 1000000 by decide), fun i v H2 hv e2 d2 => ?_⟩
        have ee : ExB d H H2 := (e1.trans (ExB.of (Ex.new hp))).trans e2
        obtain ⟨m, rfl, m1⟩ : ∃ m : Nat, v = .int (m : Nat) ∧ m ≤ 3 := by
          match i, hv with
          | 0, hv => cases hv; exact ⟨0, rfl, by decide⟩
          | 1, hv => cases hv; exact ⟨1, rfl, by decide⟩
          | 2, hv => cases hv; exact ⟨2, rfl, by decide⟩
          | 3, hv => cases hv; exact ⟨3, rfl, by decide⟩
          | i + 4, hv => cases hv
        refine n_1 (by omega) ?_
        rw [Int.toNat_natCast]
        have mb : m * NR j ≤ 3 * NR j := Nat.mul_le_mul_right _ m1
        refine c_diceD (K := K) (F := Fine j) (N := NR j) (fun p f => f.nl) d2 (by omega) (fun _ => rfl) ?_ ?_
        · intro i H3 q3 M hi e3 d3 hq
          repeat walk_at "rd"
          have ib : i * NR j + NR j ≤ 3 * NR j := by
            have : (i + 1) * NR j ≤ 3 * NR j := Nat.mul_le_mul_right _ (by omega)
            rw [Nat.succ_mul] at this
            exact this
          exact ⟨d, _, j, by omega, by rw [show (((j + 1 : Nat) : Int) - 1) = (j : Nat) by omega], d3, by omega, fun v p H4 e4 d4 dp fp => hq v p H4 dp fp e4 d4⟩
        · intro L H3 us ps hL ne e3 h3 a3 lp fp d3
          repeat walk_at "rd"
          refine r_tupL (sqL_of h3) fun pt hpt => ?_
          have ex3 : ExB d H (upd H3 pt (.tup us)) := (ee.trans e3).trans (ExB.of (Ex.new hpt))
          exact q _ _ _ ex3 ((d3.fresh hpt).mono (by omega)) (.tup sqT_new (DpA.ex (Ex.new hpt) a3)) (Fine.tup fp (by omega))
end
end K42

namespace K42
section
variable {P : Program} {w : World} {K : PySem.W.Frag} {mg : Str → Option Value} {base : Heap}
theorem r_alt {σ : St} {H : Hp} {Q : VK} {te1 te2 : TE} {b : Bool} (t : V) (h1 : b = true → ∀ Q' : VK, Q' t H → te1 σ H Q') (h2 : b = false → ∀ Q' : VK, Q' t H → te2 σ H Q') (q : Q t H) : if b = true then te1 σ H Q else te2 σ H Q := by
  cases b
  · rw [if_neg Bool.false_ne_true]
    exact h2 rfl Q q
  · rw [if_pos rfl]
    exact h1 rfl Q q
theorem GoodL.snoc {t t' : Int} {l : List Ent} {p : PyData} (g : GoodL t l) (h : t ≤ t') (h1 : 1 ≤ t') (f : Fine 2 p) : GoodL t' (l ++ [(t', p)]) := by
  refine ⟨fun e he => ?_, ?_⟩
  · rcases List.mem_append.mp he with he | he
    · have := g.ent e he
      exact ⟨this.1, by omega, this.2.2⟩
    · rw [List.mem_singleton.mp he]
      exact ⟨h1, Int.le_refl _, f⟩
  · rw [List.map_append, List.pairwise_append]
    refine ⟨g.asc, by simp, fun a ha b hb => ?_⟩
    obtain ⟨e, he, rfl⟩ := List.mem_map.mp ha
    have := (g.ent e he).2.1
    have hb' : b = t' := by simpa using hb
    omega
theorem GoodL.mono {T U : Int} (h : T ≤ U) {l : List Ent} (g : GoodL T l) : GoodL U l := ⟨fun e he => ⟨(g.ent e he).1, by have := (g.ent e he).2.1; omega, (g.ent e he).2.2⟩, g.asc⟩
/-- the last term bounds all -/
theorem GoodL.last {T : Int} {l : List Ent} {e : Ent} (g : GoodL T l) (h : l[l.length - 1]? = some e) : GoodL e.1 l := by
  refine ⟨fun x hx => ⟨(g.ent x hx).1, ?_, (g.ent x hx).2.2⟩, g.asc⟩
  obtain ⟨i, hi⟩ := List.mem_iff_getElem?.mp hx
  obtain ⟨li, ei⟩ := List.getElem?_eq_some_iff.mp hi
  obtain ⟨lj, ej⟩ := List.getElem?_eq_some_iff.mp h
  by_cases c : i = l.length - 1
  · subst c
    rw [hi] at h
    cases h
    exact Int.le_refl _
  · have := List.pairwise_iff_getElem.mp g.asc i (l.length - 1) (by rw [List.length_map]; exact li) (by rw [List.length_map]; exact lj) (by omega)
    rw [List.getElem_map, List.getElem_map, ei, ej] at this
    exact this
abbrev s__law_log : Stmt := top 34
theorem sc__law_log : FnScope ["dice", "start", "many", "found", "term", "turn"] ["dice", "start", "many"] (defScope s__law_log) := ⟨rfl, rfl, rfl, by decide +kernel, rfl, by decide +kernel, by decide +kernel⟩
def sp_law_log (K : PySem.W.Frag) : Sp := fun vs H Q _ => ∃ (d a : Addr) (m n : Nat) (us : List V) (l : List Ent) (T : Int), vs = [.ref d, .ref a, .int (m : Nat)] ∧ Dice n H d ∧ n + m * 1400 < 1000000000000 ∧ SqL K H a us ∧ DpAll K H us (dL l) ∧ a ≠ d ∧ GoodL T l ∧ l.length ≤ 10 ∧ m ≤ 4 ∧ 1 ≤ T ∧ T + 3 * m ≤ 1000 ∧
  ∀ p H' us' l', ExB d H H' → H p = none → p ≠ d → H' p = some (.lst us') → DpAll K H' us' (dL (l ++ l')) → l'.length = m → GoodL (T + 3 * m) (l ++ l') → Dice (n + m * 1400) H' d → Q (.ref p) H'
theorem ok__law_log (C : Cx0 K mg base) : Cal P w K mg base 7 "_law_log" ["dice", "start", "many"] (sp_law_log K) := by
  have c__law_pick := ok__law_pick (P := P) (w := w) C
  have c__law_plain := ok__law_plain (P := P) (w := w) C 3
  refine C.cal 22 22 rfl rfl sc__law_log (fun _ _ _ _ _ _ us hl => match us, hl with | [_, _, _], _ => rfl) (fun vs H Q E h => ?_) (fun f cdv A outer s H vs Q E hr h => ⟨_, PSs.nox
    (pss_cons (ps_par (i := 3) (j := 4) rfl sc__law_log.nd rfl rfl (by decide) rfl rfl (pa_cons (pe_bt (k_list (K := K) rfl) (C.free 39) (by decide +kernel) (pa_cons (pv 1) pa_nil)) (pa_cons (pe_ifExp (pt_cmpR (k_ne (K := K) rfl hr) (pv 1) (pe_lst pa_nil) (nomark _)) (pe_ix (k_ix (K := K) rfl) (pe_ix (k_ix (K := K) rfl) (pv 1) (pe_un un_neg pe_int) (fun _ _ => rfl)) pe_int (fun _ _ => rfl)) pe_int) pa_nil)) (by rfl))
      (pss_cons (ps_for PassesOwn.never rfl (pi_range1 rfl (C.free 34) (pa_cons (pv 2) pa_nil)) (pg_name (i := 5) sc__law_log.nd rfl (Or.inl rfl))
      (pss_cons (ps_set (i := 4) sc__law_log.nd rfl (Or.inl rfl) (pe_op (k_add (K := K) rfl) (pv 4) (pe_f c__law_pick hr (by first | decide | omega) passL (pa_cons (pv 0) (pa_cons (pe_lst (pa_cons pe_int (pa_cons pe_int (pa_cons pe_int (pa_cons pe_int pa_nil))))) pa_nil)))))
      (pss_one (ps_expr (k_append (K := K) rfl (pv 3) (pe_tup (pa_cons (pv 4) (pa_cons (pe_f c__law_plain hr (by first | decide | omega) passL (pa_cons (pv 0) (pa_cons pe_int pa_nil))) pa_nil))))))))
      (pss_one (ps_ret (pv 3))))), ?_⟩)
  · obtain ⟨d, a, m, n, us, l, T, rfl, _⟩ := h
    rfl
  · obtain ⟨d, a, m, n, us, l, T, rfl, hd, hn, ha, hu, nd, g, ll, hm, T0, T1, q⟩ := h
    have hl := DpA.length hu
    rw [dL_len] at hl
    have fin := dE_fine (by omega) g
    repeat walk_at "rd"
    refine r_listL ha fun p hp => ?_
    repeat walk_at "rd"
    refine ⟨(show 0 ≤ sizeLine by decide), fun z hz => ?_⟩
    refine r_neE (d := .list (dL l)) (e := .list []) (.lst (sqL_up hz (sqL_up hp ha)) (DpA.ex (Ex.new hz) (DpA.ex (Ex.new hp) hu))) (.lst sqL_new .nil) (shaped_list fin (by decide)) (by decide +kernel) ?_
    have ee : PyData.eqv (.list (dL l)) (.list []) = (dL l).isEmpty := by simp only [PyData.eqv, eqvA_nil]
    rw [ee]
    repeat walk_at "rd"
    obtain ⟨t0, t1, t2, g0, hlast⟩ : ∃ t0 : Int, 1 ≤ t0 ∧ t0 ≤ T ∧ GoodL t0 l ∧ ((l = [] ∧ t0 = 1) ∨ ∃ e, l[l.length - 1]? = some e ∧ e.1 = t0) := by
      by_cases c : l = []
      · subst c
        exact ⟨1, by decide, T0, ⟨(fun e he => nomatch he), .nil⟩, .inl ⟨rfl, rfl⟩⟩
      · have lx : l.length - 1 < l.length := by have := List.length_pos_iff.mpr c; omega
        have hx : l[l.length - 1]? = some l[l.length - 1] := List.getElem?_eq_getElem lx
        have := g.ent _ (List.getElem_mem lx)
        exact ⟨_, this.1, this.2.1, g.last hx, .inr ⟨_, hx, rfl⟩⟩
    refine r_alt (.int t0) (fun hb Q' q' => ?_) (fun hb Q' q' => ?_) ?_
    · rcases hlast with ⟨rfl, _⟩ | ⟨e, he, rfl⟩
      · cases hb
      · have hx : (dL l)[(dL l).length - 1]? = some (dE e) := by
          rw [dL_len]
          unfold dL
          rw [List.getElem?_map, he]; rfl
        obtain ⟨u1, hu1, du⟩ := DpA.at hu hx
        rw [dL_len, ← hl] at hu1
        cases du with
        | tup h1 h2 =>
          cases h2 with
          | cons h3 h4 =>
            cases h3
            repeat walk_at "rd"
            refine r_ixM (k := .l) (sqL_up hz (sqL_up hp ha)) (atI_last hu1) ?_
            repeat walk_at "rd"
            refine r_ixS (k := .t) (i := 0) (sqT_up hz (sqT_up hp h1)) rfl ?_
            exact q'
    · rcases hlast with ⟨rfl, rfl⟩ | ⟨e, he, rfl⟩
      · exact q'
      · have : (dL l).isEmpty = false := by
          cases l with
          | nil => cases he
          | cons => rfl
        rw [this] at hb
        cases hb
    repeat walk_at "rd"
    have npd : p ≠ d := hd.ne hp
    have e0 : Ex H (upd (upd H p (.lst us)) z (.lst [])) := (Ex.new hp).trans (Ex.new hz)
    have hp0 : upd (upd H p (.lst us)) z (.lst []) p = some (.lst us) := at_up hz upd_same
    have hu0 := DpA.ex e0 hu
    have d0 := hd.ex e0
    generalize upd (upd H p (.lst us)) z (.lst []) = H0 at *
    refine n_1 (by omega) ?_
    rw [Int.toNat_natCast]
    refine f_rng (fun i σ H' => ∃ (t : Int) (us' : List V) (l' : List Ent) (x5 : Option V), σ = [some (.ref d), some (.ref a), some (.int (m : Nat)), some (.ref p), some (.int t), x5] ∧ ExB d H H' ∧ H' p = some (.lst us') ∧ DpAll K H' us' (dL (l ++ l')) ∧ l'.length = i ∧ GoodL t (l ++ l') ∧ 1 ≤ t ∧ t ≤ T + 3 * i ∧ Dice (n + i * 1400) H' d)
      ⟨t0, us, [], _, rfl, ExB.of e0, hp0, by rw [List.append_nil]; exact hu0, rfl, by rw [List.append_nil]; exact g0, t1, by omega, by rw [Nat.zero_mul]; exact d0⟩ ?_ ?_
    · rintro i σ H1 hi ⟨t, us', l', x5, rfl, e1, hp1, hu1, ll', gt, u1, u2, d1⟩
      repeat walk_at "rd"
      refine ⟨(show 4 ≤ sizeLine by decide), fun q1 hq1 => ?_⟩
      repeat walk_at "rd"
      refine ⟨d, q1, .l, _, _, rfl, d1.fresh hq1, by omega, d1.ne hq1, sqL_new, (show 0 < 4 by decide), (show 4 < 1000000 by decide), fun j v H2 hv e2 d2 => ?_⟩
      have up2 : ExB d H1 H2 := (ExB.of (Ex.new hq1)).trans e2
      obtain ⟨u, rfl, v0, v1⟩ : ∃ u : Int, v = .int u ∧ 0 ≤ u ∧ u ≤ 3 := by
        match j, hv with
        | 0, hv => cases hv; exact ⟨_, rfl, by decide, by decide⟩
        | 1, hv => cases hv; exact ⟨_, rfl, by decide, by decide⟩
        | 2, hv => cases hv; exact ⟨_, rfl, by decide, by decide⟩
        | 3, hv => cases hv; exact ⟨_, rfl, by decide, by decide⟩
        | j + 4, hv => cases hv
      repeat walk_at "rd"
      refine ⟨.inl ⟨rfl, us', sqL_of (up2 _ _ npd hp1)⟩, ?_⟩
      repeat walk_at "rd"
      have nr2 : NR 2 = 1300 := rfl
      refine ⟨d, _, 2, by decide, rfl, d2, by rw [nr2]; omega, fun v p2 H3 e3 d3 dp fp => ?_⟩
      have up3 := up2.trans e3
      repeat walk_at "rd"
      refine ⟨(show 2 ≤ sizeLine by decide), fun q3 hq3 => ?_⟩
      have up4 : ExB d H1 (upd H3 q3 (.tup [.int (t + u), v])) := up3.trans (ExB.of (Ex.new hq3))
      have hp4 := up4 _ _ npd hp1
      obtain ⟨zs, hz1⟩ := d1.lst
      have nlL := nl_of (show t ≤ 1000 by omega) gt
      have all4 : DpAll K (upd H3 q3 (.tup [.int (t + u), v])) us' (dL (l ++ l')) := DpA.en hz1 (EN.b up4) nlL hu1
      have ent4 : Dp K (upd H3 q3 (.tup [.int (t + u), v])) (.ref q3) (dE (t + u, p2)) := .tup sqT_new (.cons (.int _) (.cons (Dp.ex (Ex.new hq3) dp) .nil))
      have d4 := d3.fresh (o := .tup [.int (t + u), v]) hq3
      generalize upd H3 q3 (.tup [.int (t + u), v]) = H4 at *
      have lus : us'.length ≤ 14 := by
        rw [DpA.length hu1, dL_len, List.length_append]
        omega
      repeat walk_at "rd"
      refine r_app hp4 (Nat.lt_of_le_of_lt lus (by decide)) ?_
      repeat walk_at "rd"
      have g2 : GoodL (t + u) ((l ++ l') ++ [(t + u, p2)]) := gt.snoc (by omega) (by omega) fp
      have enL : EN p H4 (upd H4 p (.lst (us' ++ [.ref q3]))) := fun b o nb hb _ => (upd_ne nb).trans hb
      have e5 : dL (l ++ (l' ++ [(t + u, p2)])) = dL (l ++ l') ++ [dE (t + u, p2)] := by
        rw [← List.append_assoc, dL_app]; rfl
      refine ⟨t + u, us' ++ [.ref q3], l' ++ [(t + u, p2)], _, rfl, ?_, upd_same, ?_, by rw [List.length_append, ll']; rfl, by rw [← List.append_assoc]; exact g2, by omega, by omega, ?_⟩
      · intro b o hb ho
        have hne : b ≠ p := fun z => by rw [z, hp] at ho; cases ho
        exact (upd_ne hne).trans (up4 _ _ hb (e1 b o hb ho))
      · rw [e5]
        refine DpA.en hp4 enL ?_ (DpA.snoc all4 ent4)
        rw [← e5, ← List.append_assoc]
        exact nl_of (by omega) g2
      · obtain ⟨x, y, z, h, r1, r2, r3, r4, r5⟩ := d4
        refine ⟨x, y, z, (upd_ne (Ne.symm npd)).trans h, r1, r2, r3, r4, ?_⟩
        omega
    · rintro σ H1 ⟨t, us', l', x5, rfl, e1, hp1, hu1, ll', gt, u1, u2, d1⟩
      repeat walk_at "rd"
      exact q p H1 us' l' e1 hp npd hp1 hu1 ll' (gt.mono u2) d1
abbrev s__law_same : Stmt := top 36
theorem sc__law_same : FnScope ["one", "other", "found", "pair"] ["one", "other"] (defScope s__law_same) := ⟨rfl, rfl, rfl, by decide +kernel, rfl, by decide +kernel, by decide +kernel⟩
theorem ok__law_same (C : Cx0 K mg base) : CalG P w K mg base 1 "_law_same" ["one", "other"] (sp_common_of K) := by
  refine C.calG 24 24 rfl rfl sc__law_same (fun _ _ _ _ _ _ us hl => match us, hl with | [_, _], _ => rfl) (fun vs H Q E h => ?_) (fun f cdv A outer s H vs Q E gd hr h => ⟨_, PSs.nox
    (pss_cons (ps_set (i := 2) sc__law_same.nd rfl (Or.inl rfl) pe_int)
      (pss_cons (ps_for PassesOwn.never rfl (k_zipN (K := K) rfl rfl (C.free 35) (pa_cons (pv 0) (pa_cons (pv 1) pa_nil))) (pg_name (i := 3) sc__law_same.nd rfl (Or.inl rfl))
      (pss_cons (ps_if (pt_cmpR (k_ne (K := K) rfl hr) (pe_bi (k_repr (K := K) rfl hr gd) (C.free 41) (by decide +kernel) (pa_cons (pe_ix (k_ix (K := K) rfl) (pv 3) pe_int (fun _ _ => rfl)) pa_nil)) (pe_bi (k_repr (K := K) rfl hr gd) (C.free 41) (by decide +kernel) (pa_cons (pe_ix (k_ix (K := K) rfl) (pv 3) pe_int (fun _ _ => rfl)) pa_nil)) (nomark _)) (pss_one (ps_ret (pv 2))) pss_nil)
      (pss_one (ps_set (i := 2) sc__law_same.nd rfl (Or.inl rfl) (pe_op (k_add (K := K) rfl) (pv 2) pe_int)))))
      (pss_one (ps_ret (pv 2))))), ?_⟩)
  · obtain ⟨a, b, us, ws, ds, es, rfl, _⟩ := h
    rfl
  · obtain ⟨a, b, us, ws, ds, es, rfl, ha, hd, hb, he, o1, o2, k⟩ := h
    have l1 := DpA.length hd
    have l2 := DpA.length he
    repeat walk_at "rd"
    refine f_zipN (k1 := .t) (k2 := .t) ha hb rfl (fun i σ H' => ∃ x3 : Option V, σ = [some (.ref a), some (.ref b), some (.int (i : Nat)), x3] ∧ Ex H H' ∧ comN ds es = i + comN (ds.drop i) (es.drop i)) ⟨_, rfl, Ex.refl H, by rw [Nat.zero_add]; rfl⟩ (fun i σ H' _ p => by obtain ⟨_, _, e, _⟩ := p; exact ⟨sqT_ex e ha, sqT_ex e hb⟩) ?_ ?_
    · rintro i x y T σ H1 hx hy ⟨x3, rfl, e1, ec⟩ hT
      obtain ⟨p, hp, dp⟩ := DpA.get hd hx
      obtain ⟨q, hq, dq⟩ := DpA.get he hy
      rw [comN_step hp hq] at ec
      obtain ⟨⟨sp, xp, ep⟩, sq, xq, eq⟩ := And.intro (o1.2 p (List.mem_of_getElem? hp)) (o2.2 q (List.mem_of_getElem? hq))
      have e2 : Ex H (upd H1 T (.tup [x, y])) := e1.trans (Ex.new hT)
      have hP : SqT K (upd H1 T (.tup [x, y])) T [x, y] := sqT_new
      generalize upd H1 T (.tup [x, y]) = H2 at *
      repeat walk_at "rd"
      refine r_ixS (k := .t) (i := 0) hP rfl ?_
      repeat walk_at "rd"
      refine r_reprD (Dp.ex e2 dp) ep sp ?_
      repeat walk_at "rd"
      refine r_ixS (k := .t) (i := 1) hP rfl ?_
      repeat walk_at "rd"
      refine r_reprD (Dp.ex e2 dq) eq sq ?_
      repeat walk_at "rd"
      by_cases c : p.shown = q.shown
      · rw [if_pos c] at ec
        refine r_F (by rw [decide_eq_true c]; rfl) ?_
        repeat walk_at "rd"
        exact ⟨_, rfl, e2, by omega⟩
      · rw [if_neg c, Nat.add_zero] at ec
        refine r_T (by rw [decide_eq_false c]; rfl) ?_
        repeat walk_at "rd"
        rw [← ec]
        exact k _ e2
    · rintro σ H1 ⟨x3, rfl, e1, ec⟩
      rw [comN_end (by omega), Nat.add_zero] at ec
      repeat walk_at "rd"
      rw [← ec]
      exact k _ e1
end
end K42

namespace K42
section
variable {P : Program} {w : World} {K : PySem.W.Frag} {mg : Str → Option Value} {base : Heap}
/-- no log, whatever becomes of d -/
def Bd (K : PySem.W.Frag) (d : Addr) (H : Hp) (v : V) : Prop := ∀ H', ExB d H H' → NoLog K H' v
theorem Bd.exb {d : Addr} {H H' : Hp} {v : V} (e : ExB d H H') (h : Bd K d H v) : Bd K d H' v := fun H2 e2 => h H2 (e.trans e2)
def Bds (K : PySem.W.Frag) (d : Addr) (H : Hp) (vs : List V) : Prop := ∀ v ∈ vs, Bd K d H v
theorem Bds.ex {d : Addr} {H H' : Hp} {vs : List V} (e : Ex H H') (h : Bds K d H vs) : Bds K d H' vs := fun v hv => (h v hv).exb (ExB.of e)
theorem Bds.snoc {d : Addr} {H : Hp} {vs : List V} {v : V} (h : Bds K d H vs) (k : Bd K d H v) : Bds K d H (vs ++ [v]) := fun x hx => by
  rcases List.mem_append.mp hx with hx | hx
  · exact h x hx
  · rw [List.mem_singleton.mp hx]; exact k
theorem sqT_xb {d a : Addr} {H H' : Hp} {xs zs : List V} (hd : H d = some (.lst zs)) (e : ExB d H H') (h : SqT K H a xs) : SqT K H' a xs := sqT_enL hd (EN.b e) h
theorem wt_app : ∀ (xs ys : List PyData), PyData.weightAll (xs ++ ys) = PyData.weightAll xs + PyData.weightAll ys
  | [], ys => by simp [PyData.weightAll]
  | x :: xs, ys => by
    rw [List.cons_append]
    simp only [PyData.weightAll, wt_app xs ys]; omega
theorem log_no {ds : List PyData} {q : PyData} (h : entD q = false) : logD (.tuple (ds ++ [q])) = false := by
  have e : logD (.tuple (ds ++ [q])) = (decide ((ds ++ [q]).length ≤ 600) && ((ds ++ [q]).all entD && ascD (ds ++ [q]))) := rfl
  rw [e, List.all_append, List.all_cons, h, Bool.false_and, Bool.and_false, Bool.false_and, Bool.and_false]
theorem bd_cat {d p : Addr} {H : Hp} {zs us : List V} {x : V} {q : PyData} {l : List Ent} {T : Int} (hT : T ≤ 1000) (g : GoodL T l) (ll : l.length ≤ 20) (hd : H d = some (.lst zs)) (h : SqT K H p (us ++ [x])) (hu : DpAll K H us (dL l)) (hx : ∀ H', ExB d H H' → Dp K H' x q) (no : entD q = false) (wq : q.weight ≤ 1000) : Bd K d H (.ref p) := fun H' e => by
  refine ⟨.tuple (dL l ++ [q]), .tup (sqT_xb hd e h) (DpA.append (DpA.en hd (EN.b e) (nl_of hT g) hu) (.cons (hx H' e) .nil)), log_no no, ?_⟩
  have h1 := wt_of hT g ll
  simp only [PyData.weight] at h1 ⊢
  rw [wt_app]
  simp only [PyData.weightAll]
  omega
theorem bd_one {d p : Addr} {H : Hp} {zs : List V} {v : V} {q : PyData} (hx : ∀ H', ExB d H H' → Dp K H' v q) (no : logD q = false) (wq : q.weight ≤ 1000000) : Bd K d H v := fun H' e => ⟨q, hx H' e, no, wq⟩
theorem rep_all {H : Hp} {v : V} {q : PyData} (h : Dp K H v q) : ∀ n : Nat, DpAll K H (List.replicate n [v]).flatten (List.replicate n q)
  | 0 => .nil
  | n + 1 => by
    rw [List.replicate_succ, List.replicate_succ, List.flatten_cons]
    exact .cons h (rep_all h n)
theorem rep_wt (q : PyData) : ∀ n : Nat, PyData.weightAll (List.replicate n q) = n * (q.weight + 1)
  | 0 => by simp [PyData.weightAll]
  | n + 1 => by
    rw [List.replicate_succ]
    simp only [PyData.weightAll, rep_wt q n, Nat.succ_mul]; omega
theorem ent_whole : ∀ {l : List Ent}, entD (.tuple (dL l)) = false
  | [] => rfl
  | [_] => rfl
  | [_, _] => rfl
  | _ :: _ :: _ :: _ => rfl
abbrev s__law_near : Stmt := top 35
theorem sc__law_near : FnScope ["dice", "log", "whole", "odd"] ["dice", "log"] (defScope s__law_near) := ⟨rfl, rfl, rfl, by decide +kernel, rfl, by decide +kernel, by decide +kernel⟩
def sp_near (K : PySem.W.Frag) : Sp := fun vs H Q _ => ∃ (d a : Addr) (n : Nat) (us : List V) (l : List Ent) (T : Int), vs = [.ref d, .ref a] ∧ Dice n H d ∧ n < 900000000000 ∧ H a = some (.lst us) ∧ DpAll K H us (dL l) ∧ a ≠ d ∧ GoodL T l ∧ T ≤ 1000 ∧ l.length ≤ 20 ∧
  ∀ v H', ExB d H H' → Dice (n + 1) H' d → Bd K d H' v → Q v H'
theorem ok__law_near (C : Cx0 K mg base) : Cal P w K mg base 3 "_law_near" ["dice", "log"] (sp_near K) := by
  have c__law_pick := ok__law_pick (P := P) (w := w) C
  refine C.cal 23 23 rfl rfl sc__law_near (fun _ _ _ _ _ _ us hl => match us, hl with | [_, _], _ => rfl) (fun vs H Q E h => ?_) (fun f cdv A outer s H vs Q E hr h => ⟨_, PSs.nox
    (pss_cons (ps_set (i := 2) sc__law_near.nd rfl (Or.inl rfl) (pe_bt (k_tuple (K := K) rfl) (C.free 33) (by decide +kernel) (pa_cons (pv 1) pa_nil)))
      (pss_cons (ps_set (i := 3) sc__law_near.nd rfl (Or.inl rfl) (pe_lst (pa_cons pe_non (pa_cons (pv 1) (pa_cons (pe_op (k_add (K := K) rfl) (pv 2) (pe_tup (pa_cons (pe_tup (pa_cons pe_int (pa_cons pe_int pa_nil))) pa_nil))) (pa_cons (pe_op (k_add (K := K) rfl) (pv 2) (pe_tup (pa_cons (pe_tup (pa_cons pe_bl (pa_cons pe_int pa_nil))) pa_nil))) (pa_cons (pe_op (k_add (K := K) rfl) (pv 2) (pe_tup (pa_cons (pe_tup (pa_cons (pe_op op_pow pe_int pe_int) (pa_cons (pe_lst (pa_cons pe_int pa_nil)) pa_nil))) pa_nil))) (pa_cons (pe_op (k_add (K := K) rfl) (pv 2) (pe_tup (pa_cons (pe_tup (pa_cons (pe_op op_pow pe_int pe_int) pa_nil)) pa_nil))) (pa_cons (pe_op (k_add (K := K) rfl) (pv 2) (pe_tup (pa_cons pe_non pa_nil))) pa_nil)))))))))
      (pss_cons (ps_set (i := 3) sc__law_near.nd rfl (Or.inl rfl) (pe_op (k_add (K := K) rfl) (pv 3) (pe_lst (pa_cons (pe_tup (pa_cons (pe_tup (pa_cons pe_int (pa_cons pe_int pa_nil))) (pa_cons (pe_tup (pa_cons pe_int (pa_cons pe_int pa_nil))) pa_nil))) (pa_cons (pe_op (k_add (K := K) rfl) (pv 2) (pe_tup (pa_cons (pe_lst (pa_cons (pe_op op_pow pe_int pe_int) (pa_cons pe_int pa_nil))) pa_nil))) (pa_cons (pe_tup (pa_cons (pv 2) pa_nil)) (pa_cons pe_str (pa_cons (pe_tup (pa_cons (pe_tup (pa_cons pe_int (pa_cons (pe_op op_pow pe_int pe_int) pa_nil))) pa_nil)) (pa_cons (pe_tup (pa_cons (pe_tup (pa_cons pe_int (pa_cons (pe_op op_mulZ pe_str pe_int) pa_nil))) pa_nil)) (pa_cons (pe_op (k_mul (K := K) rfl) (pe_tup (pa_cons (pe_tup (pa_cons pe_int (pa_cons pe_int pa_nil))) pa_nil)) pe_int) pa_nil))))))))))
      (pss_one (ps_ret (pe_f c__law_pick hr (by first | decide | omega) passL (pa_cons (pv 0) (pa_cons (pv 3) pa_nil)))))))), ?_⟩)
  · obtain ⟨d, a, n, us, l, T, rfl, _⟩ := h
    rfl
  · obtain ⟨d, a, n, us, l, T, rfl, hd, hn, ha, hu, nd, g, hT, ll, q⟩ := h
    have hlu := DpA.length hu
    rw [dL_len] at hlu
    have big : 1000 ≤ sizeLine := by decide
    obtain ⟨zs, hz⟩ := hd.lst
    repeat walk_at "rd"
    refine r_tupL (sqL_of ha) fun pw hpw => ?_
    repeat walk_at "rd"
    have x0 : Ex H (upd H pw (.tup us)) := Ex.new hpw
    have X0 := x0
    have hw0 : SqT K (upd H pw (.tup us)) pw us := sqT_new
    have hu0 := DpA.ex x0 hu
    have hz0 := x0 _ _ hz
    have d0 := hd.ex x0
    have ha0 := x0 _ _ ha
    have B0 : Bds K d (upd H pw (.tup us)) [.non, .ref a] := fun v hv => by
      rcases List.mem_cons.mp hv with rfl | hv
      · exact fun H' e => ⟨.none, .non, rfl, by simp only [PyData.weight]; omega⟩
      · rw [List.mem_singleton.mp hv]
        intro H' e
        refine ⟨.list (dL l), .lst (sqL_of (e _ _ nd ha0)) (DpA.en hz0 (EN.b e) (nl_of hT g) hu0), rfl, ?_⟩
        have h1 := wt_of hT g ll
        simp only [PyData.weight] at h1 ⊢
        omega
    clear ha ha0 hu hz hd
    generalize upd H pw (.tup us) = H0 at *
    refine ⟨(show 2 ≤ sizeLine by decide), fun a0 ha0 => ?_⟩
    repeat walk_at "rd"
    refine ⟨(show 1 ≤ sizeLine by decide), fun b0 hb0 => ?_⟩
    refine r_catT (sqT_up hb0 (sqT_up ha0 hw0)) sqT_new (by rw [List.length_singleton]; omega) fun p0 H1 e0 h0 => ?_
    have x1 := ((Ex.new ha0).trans (Ex.new hb0)).trans e0
    have s0 : SqT K H1 a0 [.int 0, .int 1] := sqT_ex e0 (sqT_up hb0 sqT_new)
    have hw1 := sqT_ex x1 hw0
    have hu1 := DpA.ex x1 hu0
    have hz1 := x1 _ _ hz0
    have d1 := d0.ex x1
    have B1 := B0.ex x1
    have X1 := Ex.trans X0 x1
    replace B1 := B1.snoc (bd_cat hT g ll hz1 h0 hu1 (x := .ref a0) (q := .tuple [.int 0, .int 1]) (fun H2 e2 => .tup (sqT_xb hz1 e2 s0) (.cons (.int _) (.cons (.int _) .nil))) (by decide +kernel) (by decide +kernel))
    clear s0 e0 h0 ha0 hb0 x1
    clear hw0 hu0 hz0 d0 B0 X0
    repeat walk_at "rd"
    refine ⟨(show 2 ≤ sizeLine by decide), fun a1 ha1 => ?_⟩
    repeat walk_at "rd"
    refine ⟨(show 1 ≤ sizeLine by decide), fun b1 hb1 => ?_⟩
    refine r_catT (sqT_up hb1 (sqT_up ha1 hw1)) sqT_new (by rw [List.length_singleton]; omega) fun p1 H2 e1 h1 => ?_
    have x2 := ((Ex.new ha1).trans (Ex.new hb1)).trans e1
    have s1 : SqT K H2 a1 [.bl true, .int 1] := sqT_ex e1 (sqT_up hb1 sqT_new)
    have hw2 := sqT_ex x2 hw1
    have hu2 := DpA.ex x2 hu1
    have hz2 := x2 _ _ hz1
    have d2 := d1.ex x2
    have B2 := B1.ex x2
    have X2 := Ex.trans X1 x2
    replace B2 := B2.snoc (bd_cat hT g ll hz2 h1 hu2 (x := .ref a1) (q := .tuple [.bool true, .int 1]) (fun H2 e2 => .tup (sqT_xb hz2 e2 s1) (.cons (.bl _) (.cons (.int _) .nil))) (by decide +kernel) (by decide +kernel))
    clear s1 e1 h1 ha1 hb1 x2
    clear hw1 hu1 hz1 d1 B1 X1
    repeat walk_at "rd"
    refine r_powI ⟨by decide, by decide, by decide⟩ ?_
    repeat walk_at "rd"
    refine ⟨(show 1 ≤ sizeLine by decide), fun c2 hc2 => ?_⟩
    repeat walk_at "rd"
    have nc2 : c2 ≠ d := d2.ne hc2
    refine ⟨(show 2 ≤ sizeLine by decide), fun a2 ha2 => ?_⟩
    repeat walk_at "rd"
    refine ⟨(show 1 ≤ sizeLine by decide), fun b2 hb2 => ?_⟩
    refine r_catT (sqT_up hb2 (sqT_up ha2 (sqT_up hc2 hw2))) sqT_new (by rw [List.length_singleton]; omega) fun p2 H3 e2 h2 => ?_
    have x3 := (((Ex.new hc2).trans (Ex.new ha2)).trans (Ex.new hb2)).trans e2
    have s2 : SqT K H3 a2 [.int (10 ^ (9 : Int).toNat), .ref c2] := sqT_ex e2 (sqT_up hb2 sqT_new)
    have r2 : H3 c2 = some (.lst [.int 1]) := e2 _ _ (at_up hb2 (at_up ha2 upd_same))
    have hw3 := sqT_ex x3 hw2
    have hu3 := DpA.ex x3 hu2
    have hz3 := x3 _ _ hz2
    have d3 := d2.ex x3
    have B3 := B2.ex x3
    have X3 := Ex.trans X2 x3
    replace B3 := B3.snoc (bd_cat hT g ll hz3 h2 hu3 (x := .ref a2) (q := .tuple [.int (10 ^ (9 : Int).toNat), .list [.int 1]]) (fun H2 e2 => .tup (sqT_xb hz3 e2 s2) (.cons (.int _) (.cons (.lst (sqL_of (e2 _ _ nc2 r2)) (.cons (.int _) .nil)) .nil))) (by decide +kernel) (by decide +kernel))
    clear s2 r2 e2 h2 ha2 hb2 hc2 x3 nc2
    clear hw2 hu2 hz2 d2 B2 X2
    repeat walk_at "rd"
    refine r_powI ⟨by decide, by decide, by decide⟩ ?_
    repeat walk_at "rd"
    refine ⟨(show 1 ≤ sizeLine by decide), fun a3 ha3 => ?_⟩
    repeat walk_at "rd"
    refine ⟨(show 1 ≤ sizeLine by decide), fun b3 hb3 => ?_⟩
    refine r_catT (sqT_up hb3 (sqT_up ha3 hw3)) sqT_new (by rw [List.length_singleton]; omega) fun p3 H4 e3 h3 => ?_
    have x4 := ((Ex.new ha3).trans (Ex.new hb3)).trans e3
    have s3 : SqT K H4 a3 [.int (10 ^ (9 : Int).toNat)] := sqT_ex e3 (sqT_up hb3 sqT_new)
    have hw4 := sqT_ex x4 hw3
    have hu4 := DpA.ex x4 hu3
    have hz4 := x4 _ _ hz3
    have d4 := d3.ex x4
    have B4 := B3.ex x4
    have X4 := Ex.trans X3 x4
    replace B4 := B4.snoc (bd_cat hT g ll hz4 h3 hu4 (x := .ref a3) (q := .tuple [.int (10 ^ (9 : Int).toNat)]) (fun H2 e2 => .tup (sqT_xb hz4 e2 s3) (.cons (.int _) .nil)) (by decide +kernel) (by decide +kernel))
    clear s3 e3 h3 ha3 hb3 x4
    clear hw3 hu3 hz3 d3 B3 X3
    repeat walk_at "rd"
    refine ⟨(show 1 ≤ sizeLine by decide), fun b4 hb4 => ?_⟩
    refine r_catT (sqT_up hb4 hw4) sqT_new (by rw [List.length_singleton]; omega) fun p4 H5 e4 h4 => ?_
    have x5 := (Ex.new hb4).trans e4
    have hw5 := sqT_ex x5 hw4
    have hu5 := DpA.ex x5 hu4
    have hz5 := x5 _ _ hz4
    have d5 := d4.ex x5
    have B5 := B4.ex x5
    have X5 := Ex.trans X4 x5
    replace B5 := B5.snoc (bd_cat hT g ll hz5 h4 hu5 (x := .non) (q := .none) (fun H2 e2 => .non) rfl (by decide +kernel))
    clear e4 h4 hb4 x5
    clear hw4 hu4 hz4 d4 B4 X4
    repeat walk_at "rd"
    refine ⟨(show 7 ≤ sizeLine by decide), fun po hpo => ?_⟩
    have x6 : Ex H5 (upd H5 po (.lst [.non, .ref a, .ref p0, .ref p1, .ref p2, .ref p3, .ref p4])) := Ex.new hpo
    have ho : upd H5 po (.lst [.non, .ref a, .ref p0, .ref p1, .ref p2, .ref p3, .ref p4]) po = some (.lst [.non, .ref a, .ref p0, .ref p1, .ref p2, .ref p3, .ref p4]) := upd_same
    have no : po ≠ d := d5.ne hpo
    have hw6 := sqT_ex x6 hw5
    have hu6 := DpA.ex x6 hu5
    have hz6 := x6 _ _ hz5
    have d6 := d5.ex x6
    have B6 := B5.ex x6
    have X6 := Ex.trans X5 x6
    generalize upd H5 po (.lst [.non, .ref a, .ref p0, .ref p1, .ref p2, .ref p3, .ref p4]) = H6 at *
    clear x6 hpo
    clear hw5 hu5 hz5 d5 B5 X5
    repeat walk_at "rd"
    refine ⟨(show 2 ≤ sizeLine by decide), fun a6 ha6 => ?_⟩
    repeat walk_at "rd"
    refine ⟨(show 2 ≤ sizeLine by decide), fun b6 hb6 => ?_⟩
    repeat walk_at "rd"
    refine ⟨(show 2 ≤ sizeLine by decide), fun p6 hp6 => ?_⟩
    have x7 : Ex H6 (upd (upd (upd H6 a6 (.tup [.int 2, .int 1])) b6 (.tup [.int 1, .int 1])) p6 (.tup [.ref a6, .ref b6])) := ((Ex.new ha6).trans (Ex.new hb6)).trans (Ex.new hp6)
    have s6 : SqT K (upd (upd (upd H6 a6 (.tup [.int 2, .int 1])) b6 (.tup [.int 1, .int 1])) p6 (.tup [.ref a6, .ref b6])) a6 [.int 2, .int 1] := sqT_up hp6 (sqT_up hb6 sqT_new)
    have r6 : SqT K (upd (upd (upd H6 a6 (.tup [.int 2, .int 1])) b6 (.tup [.int 1, .int 1])) p6 (.tup [.ref a6, .ref b6])) b6 [.int 1, .int 1] := sqT_up hp6 sqT_new
    have u6 : SqT K (upd (upd (upd H6 a6 (.tup [.int 2, .int 1])) b6 (.tup [.int 1, .int 1])) p6 (.tup [.ref a6, .ref b6])) p6 [.ref a6, .ref b6] := sqT_new
    have ho2 := x7 _ _ ho
    have hw7 := sqT_ex x7 hw6
    have hu7 := DpA.ex x7 hu6
    have hz7 := x7 _ _ hz6
    have d7 := d6.ex x7
    have B7 := B6.ex x7
    have X7 := Ex.trans X6 x7
    generalize upd (upd (upd H6 a6 (.tup [.int 2, .int 1])) b6 (.tup [.int 1, .int 1])) p6 (.tup [.ref a6, .ref b6]) = H7 at *
    replace B7 := B7.snoc (v := .ref p6) (fun H2 e2 => ⟨.tuple [.tuple [.int 2, .int 1], .tuple [.int 1, .int 1]], .tup (sqT_xb hz7 e2 u6) (.cons (.tup (sqT_xb hz7 e2 s6) (.cons (.int _) (.cons (.int _) .nil))) (.cons (.tup (sqT_xb hz7 e2 r6) (.cons (.int _) (.cons (.int _) .nil))) .nil)), (by decide +kernel), (by decide +kernel)⟩)
    clear x7 ha6 hb6 hp6 s6 r6 u6 ho
    clear hw6 hu6 hz6 d6 B6 X6
    repeat walk_at "rd"
    refine r_powI ⟨by decide, by decide, by decide⟩ ?_
    repeat walk_at "rd"
    refine ⟨(show 2 ≤ sizeLine by decide), fun a7 ha7 => ?_⟩
    repeat walk_at "rd"
    have na7 : a7 ≠ d := d7.ne ha7
    refine ⟨(show 1 ≤ sizeLine by decide), fun b7 hb7 => ?_⟩
    refine r_catT (sqT_up hb7 (sqT_up ha7 hw7)) sqT_new (by rw [List.length_singleton]; omega) fun p7 H8 e7 h7 => ?_
    have x8 := ((Ex.new ha7).trans (Ex.new hb7)).trans e7
    have s7 : H8 a7 = some (.lst [.int (10 ^ (9 : Int).toNat), .int 1]) := e7 _ _ (at_up hb7 upd_same)
    have ho3 := x8 _ _ ho2
    clear ho2
    have hw8 := sqT_ex x8 hw7
    have hu8 := DpA.ex x8 hu7
    have hz8 := x8 _ _ hz7
    have d8 := d7.ex x8
    have B8 := B7.ex x8
    have X8 := Ex.trans X7 x8
    replace B8 := B8.snoc (bd_cat hT g ll hz8 h7 hu8 (x := .ref a7) (q := .list [.int (10 ^ (9 : Int).toNat), .int 1]) (fun H2 e2 => .lst (sqL_of (e2 _ _ na7 s7)) (.cons (.int _) (.cons (.int _) .nil))) (by decide +kernel) (by decide +kernel))
    clear s7 e7 h7 ha7 hb7 x8 na7
    clear hw7 hu7 hz7 d7 B7 X7
    repeat walk_at "rd"
    refine ⟨(show 1 ≤ sizeLine by decide), fun p8 hp8 => ?_⟩
    have x9 : Ex H8 (upd H8 p8 (.tup [.ref pw])) := Ex.new hp8
    have u8 : SqT K (upd H8 p8 (.tup [.ref pw])) p8 [.ref pw] := sqT_new
    have ho4 := x9 _ _ ho3
    clear ho3
    have hw9 := sqT_ex x9 hw8
    have hu9 := DpA.ex x9 hu8
    have hz9 := x9 _ _ hz8
    have d9 := d8.ex x9
    have B9 := B8.ex x9
    have X9 := Ex.trans X8 x9
    generalize upd H8 p8 (.tup [.ref pw]) = H9 at *
    replace B9 := B9.snoc (v := .ref p8) (fun H2 e2 => ⟨.tuple [.tuple (dL l)], .tup (sqT_xb hz9 e2 u8) (.cons (.tup (sqT_xb hz9 e2 hw9) (DpA.en hz9 (EN.b e2) (nl_of hT g) hu9)) .nil), log_no (ds := []) ent_whole, (by
      have h1 := wt_of hT g ll
      simp only [PyData.weight, PyData.weightAll] at h1 ⊢
      omega)⟩)
    clear x9 hp8 u8
    clear hw8 hu8 hz8 d8 B8 X8
    repeat walk_at "rd"
    replace B9 := B9.snoc (v := .str "log") (fun H2 e2 => ⟨.str "log", .str _, rfl, (by decide +kernel)⟩)
    refine r_powI ⟨by decide, by decide, by decide⟩ ?_
    repeat walk_at "rd"
    refine ⟨(show 2 ≤ sizeLine by decide), fun a9 ha9 => ?_⟩
    repeat walk_at "rd"
    refine ⟨(show 1 ≤ sizeLine by decide), fun p9 hp9 => ?_⟩
    have x10 : Ex H9 (upd (upd H9 a9 (.tup [.int 1, .int (10 ^ (30 : Int).toNat)])) p9 (.tup [.ref a9])) := (Ex.new ha9).trans (Ex.new hp9)
    have s9 : SqT K (upd (upd H9 a9 (.tup [.int 1, .int (10 ^ (30 : Int).toNat)])) p9 (.tup [.ref a9])) a9 [.int 1, .int (10 ^ (30 : Int).toNat)] := sqT_up hp9 sqT_new
    have u9 : SqT K (upd (upd H9 a9 (.tup [.int 1, .int (10 ^ (30 : Int).toNat)])) p9 (.tup [.ref a9])) p9 [.ref a9] := sqT_new
    have ho5 := x10 _ _ ho4
    clear ho4
    have hw10 := sqT_ex x10 hw9
    have hu10 := DpA.ex x10 hu9
    have hz10 := x10 _ _ hz9
    have d10 := d9.ex x10
    have B10 := B9.ex x10
    have X10 := Ex.trans X9 x10
    generalize upd (upd H9 a9 (.tup [.int 1, .int (10 ^ (30 : Int).toNat)])) p9 (.tup [.ref a9]) = H10 at *
    replace B10 := B10.snoc (v := .ref p9) (fun H2 e2 => ⟨.tuple [.tuple [.int 1, .int (10 ^ (30 : Int).toNat)]], .tup (sqT_xb hz10 e2 u9) (.cons (.tup (sqT_xb hz10 e2 s9) (.cons (.int _) (.cons (.int _) .nil))) .nil), (by decide +kernel), (by decide +kernel)⟩)
    clear x10 ha9 hp9 s9 u9
    clear hw9 hu9 hz9 d9 B9 X9
    repeat walk_at "rd"
    refine ⟨_, _, rfl, rfl, (by decide), (by decide), (by decide), (by decide), ?_⟩
    repeat walk_at "rd"
    refine ⟨(show 2 ≤ sizeLine by decide), fun a10 ha10 => ?_⟩
    repeat walk_at "rd"
    refine ⟨(show 1 ≤ sizeLine by decide), fun p10 hp10 => ?_⟩
    have x11 : Ex H10 (upd (upd H10 a10 (.tup [.int 1, .str ⟨(List.replicate (61 : Int).toNat ("a" : Str).cps).foldl (· ++ ·) #[]⟩])) p10 (.tup [.ref a10])) := (Ex.new ha10).trans (Ex.new hp10)
    have s10 : SqT K (upd (upd H10 a10 (.tup [.int 1, .str ⟨(List.replicate (61 : Int).toNat ("a" : Str).cps).foldl (· ++ ·) #[]⟩])) p10 (.tup [.ref a10])) a10 [.int 1, .str ⟨(List.replicate (61 : Int).toNat ("a" : Str).cps).foldl (· ++ ·) #[]⟩] := sqT_up hp10 sqT_new
    have u10 : SqT K (upd (upd H10 a10 (.tup [.int 1, .str ⟨(List.replicate (61 : Int).toNat ("a" : Str).cps).foldl (· ++ ·) #[]⟩])) p10 (.tup [.ref a10])) p10 [.ref a10] := sqT_new
    have ho6 := x11 _ _ ho5
    clear ho5
    have hw11 := sqT_ex x11 hw10
    have hu11 := DpA.ex x11 hu10
    have hz11 := x11 _ _ hz10
    have d11 := d10.ex x11
    have B11 := B10.ex x11
    have X11 := Ex.trans X10 x11
    generalize upd (upd H10 a10 (.tup [.int 1, .str ⟨(List.replicate (61 : Int).toNat ("a" : Str).cps).foldl (· ++ ·) #[]⟩])) p10 (.tup [.ref a10]) = H11 at *
    replace B11 := B11.snoc (v := .ref p10) (fun H2 e2 => ⟨.tuple [.tuple [.int 1, .str ⟨(List.replicate (61 : Int).toNat ("a" : Str).cps).foldl (· ++ ·) #[]⟩]], .tup (sqT_xb hz11 e2 u10) (.cons (.tup (sqT_xb hz11 e2 s10) (.cons (.int _) (.cons (.str _) .nil))) .nil), (by decide +kernel), (by decide +kernel)⟩)
    clear x11 ha10 hp10 s10 u10
    clear hw10 hu10 hz10 d10 B10 X10
    repeat walk_at "rd"
    refine ⟨(show 2 ≤ sizeLine by decide), fun a11 ha11 => ?_⟩
    repeat walk_at "rd"
    refine ⟨(show 1 ≤ sizeLine by decide), fun b11 hb11 => ?_⟩
    repeat walk_at "rd"
    refine r_mulT (xs := [.ref a11]) sqT_new (by simp) (by decide) (by decide) (by show 1 ≤ 1000; decide) fun p11 hp11 => ?_
    have x12 : Ex H11 (upd (upd (upd H11 a11 (.tup [.int 1, .int 1])) b11 (.tup [.ref a11])) p11 (.tup (List.replicate (601 : Int).toNat [V.ref a11]).flatten)) := ((Ex.new ha11).trans (Ex.new hb11)).trans (Ex.new hp11)
    have s11 : SqT K (upd (upd (upd H11 a11 (.tup [.int 1, .int 1])) b11 (.tup [.ref a11])) p11 (.tup (List.replicate (601 : Int).toNat [V.ref a11]).flatten)) a11 [.int 1, .int 1] := sqT_up hp11 (sqT_up hb11 sqT_new)
    have u11 : SqT K (upd (upd (upd H11 a11 (.tup [.int 1, .int 1])) b11 (.tup [.ref a11])) p11 (.tup (List.replicate (601 : Int).toNat [V.ref a11]).flatten)) p11 (List.replicate (601 : Int).toNat [V.ref a11]).flatten := sqT_new
    have ho7 := x12 _ _ ho6
    clear ho6
    have hw12 := sqT_ex x12 hw11
    have hu12 := DpA.ex x12 hu11
    have hz12 := x12 _ _ hz11
    have d12 := d11.ex x12
    have B12 := B11.ex x12
    have X12 := Ex.trans X11 x12
    generalize upd (upd (upd H11 a11 (.tup [.int 1, .int 1])) b11 (.tup [.ref a11])) p11 (.tup (List.replicate (601 : Int).toNat [V.ref a11]).flatten) = H12 at *
    replace B12 := B12.snoc (v := .ref p11) (fun H2 e2 => ⟨.tuple (List.replicate 601 (.tuple [.int 1, .int 1])), .tup (sqT_xb hz12 e2 u11) (rep_all (.tup (sqT_xb hz12 e2 s11) (.cons (.int _) (.cons (.int _) .nil))) 601), (by
      have e : logD (.tuple (List.replicate 601 (.tuple [.int 1, .int 1]))) = (decide ((List.replicate 601 (PyData.tuple [.int 1, .int 1])).length ≤ 600) && ((List.replicate 601 (PyData.tuple [.int 1, .int 1])).all entD && ascD (List.replicate 601 (PyData.tuple [.int 1, .int 1])))) := rfl
      rw [e, List.length_replicate, decide_eq_false (by decide), Bool.false_and]), (by
      have hq : (PyData.tuple [.int 1, .int 1]).weight ≤ 100 := by decide +kernel
      show PyData.weight (.tuple _) ≤ _
      simp only [PyData.weight] at hq ⊢
      rw [rep_wt]
      simp only [PyData.weight]
      omega)⟩)
    clear x12 ha11 hb11 hp11 s11 u11
    clear hw11 hu11 hz11 d11 B11 X11
    repeat walk_at "rd"
    refine ⟨(show 7 ≤ sizeLine by decide), fun pz hpz => ?_⟩
    refine r_catL (xs := [.non, .ref a, .ref p0, .ref p1, .ref p2, .ref p3, .ref p4]) (ys := [.ref p6, .ref p7, .ref p8, .str "log", .ref p9, .ref p10, .ref p11]) (at_up hpz ho7) upd_same (show 14 ≤ sizeLine by decide) fun py hpy => ?_
    repeat walk_at "rd"
    have BE : Bds K d (upd (upd H12 pz (.lst [.ref p6, .ref p7, .ref p8, .str "log", .ref p9, .ref p10, .ref p11])) py (.lst ([.non, .ref a, .ref p0, .ref p1, .ref p2, .ref p3, .ref p4] ++ [.ref p6, .ref p7, .ref p8, .str "log", .ref p9, .ref p10, .ref p11]))) ([.non, .ref a, .ref p0, .ref p1, .ref p2, .ref p3, .ref p4] ++ [.ref p6, .ref p7, .ref p8, .str "log", .ref p9, .ref p10, .ref p11]) := (B12.ex (Ex.new hpz)).ex (Ex.new hpy)
    have x13 : ExB d H H12 := ExB.of X12
    refine ⟨d, py, .l, _, _, rfl, (d12.fresh hpz).fresh hpy, by omega, (d12.fresh hpz).ne hpy, sqL_new, (show 0 < 14 by decide), (show 14 < 1000000 by decide), fun j v H2 hv e2 d2 => ?_⟩
    exact q v H2 ((x13.trans (ExB.of ((Ex.new hpz).trans (Ex.new hpy)))).trans e2) d2 ((BE v (List.mem_of_getElem? hv)).exb e2)
end
end K42

local macro_rules | `(tactic| walk_at "rd") => `(tactic| first
  | with_reducible refine r_m1 ?_
  | with_reducible refine r_iStr ?_
  | with_reducible refine r_iEZ ?_
  | with_reducible refine r_eqZ ?_
  | with_reducible refine r_neZ ?_
  | with_reducible refine r_callS ?_)
namespace K42
section
variable {P : Program} {w : World} {K : PySem.W.Frag} {mg : Str → Option Value} {base : Heap}
abbrev Q0 : Str := "_law_right.<locals>.<lambda>"
/-- a drawn log at a -/
def LogV (K : PySem.W.Frag) (H : Hp) (a : Addr) (l : List Ent) : Prop := ∃ us, SqT K H a us ∧ DpAll K H us (dL l) ∧ GoodL 1000 l ∧ l.length ≤ 12
theorem LogV.ex {H H' : Hp} {a : Addr} {l : List Ent} (e : Ex H H') (h : LogV K H a l) : LogV K H' a l := by
  obtain ⟨us, h1, h2, h3⟩ := h
  exact ⟨us, sqT_ex e h1, DpA.ex e h2, h3⟩
theorem LogV.exn {H H' : Hp} {a : Addr} {l : List Ent} (e : ExN H H') (h : LogV K H a l) : LogV K H' a l := by
  obtain ⟨us, h1, h2, h3⟩ := h
  exact ⟨us, sqT_exn e h1, DpA.exn e h2, h3⟩
theorem LogV.exb {H H' : Hp} {a d : Addr} {n : Nat} {l : List Ent} (hd : Dice n H d) (e : ExB d H H') (h : LogV K H a l) : LogV K H' a l := by
  obtain ⟨us, h1, h2, h3, h4⟩ := h
  obtain ⟨zs, hz⟩ := hd.lst
  exact ⟨us, sqT_xb hz e h1, DpA.en hz (EN.b e) (nl_of (by decide) h3) h2, h3, h4⟩
theorem LogV.at {H : Hp} {a : Addr} {l : List Ent} (h : LogV K H a l) : LogAt K H (.ref a) (dL l) := by
  obtain ⟨us, h1, h2, h3, h4⟩ := h
  exact ⟨.tup h1 h2, logD_of (by decide) h3 (by omega), Nat.le_trans (wt_of (by decide) h3 (by omega)) (by decide)⟩
theorem NoLog.exn {H H' : Hp} {v : V} (e : ExN H H') (h : NoLog K H v) : NoLog K H' v := by
  obtain ⟨p, h1, h2⟩ := h
  exact ⟨p, Dp.exn e h1, h2⟩
theorem LogV.row {H : Hp} {a : Addr} {l : List Ent} (h : LogV K H a l) : RowOk (dL l) := by
  obtain ⟨us, h1, h2, h3, h4⟩ := h
  exact rowOk_of (by decide) h3 (by omega)
theorem GoodL.nil (T : Int) : GoodL T [] := ⟨(fun e he => nomatch he), .nil⟩
theorem GoodL.take {T : Int} {l : List Ent} (g : GoodL T l) (n : Nat) : GoodL T (l.take n) := by
  refine ⟨fun e he => g.ent e (List.mem_of_mem_take he), ?_⟩
  rw [List.map_take]
  exact g.asc.sublist (List.take_sublist _ _)
theorem dL_take (l : List Ent) (n : Nat) : (dL l).take n = dL (l.take n) := by unfold dL; rw [List.map_take]
theorem dL_drop (l : List Ent) (n : Nat) : (dL l).drop n = dL (l.drop n) := by unfold dL; rw [List.map_drop]
/-- the last entry of the first part bears another value -/
theorem GoodL.swap {T : Int} {l m : List Ent} {e : Ent} {x : PyData} (g : GoodL T (l ++ m)) (he : l[l.length - 1]? = some e) (f : Fine 2 x) : GoodL T ((l.take (l.length - 1) ++ [(e.1, x)]) ++ m) := by
  obtain ⟨hl, ee⟩ := List.getElem?_eq_some_iff.mp he
  have es : l = l.take (l.length - 1) ++ [e] := by
    have := (List.take_append_drop (l.length - 1) l).symm
    rw [List.drop_eq_getElem_cons hl, ee, List.drop_eq_nil_of_le (by omega)] at this
    exact this
  have em : ((l.take (l.length - 1) ++ [(e.1, x)]) ++ m).map Prod.fst = (l ++ m).map Prod.fst := by
    conv => rhs; rw [es]
    simp only [List.map_append, List.map_cons, List.map_nil]
  refine ⟨fun y hy => ?_, by rw [em]; exact g.asc⟩
  rcases List.mem_append.mp hy with hy | hy
  · rcases List.mem_append.mp hy with hy | hy
    · exact g.ent y (List.mem_append_left _ (List.mem_of_mem_take hy))
    · rw [List.mem_singleton.mp hy]
      have := g.ent e (List.mem_append_left _ (List.mem_of_getElem? he))
      exact ⟨this.1, this.2.1, f⟩
  · exact g.ent y (List.mem_append_right _ hy)
abbrev s__law_refused : Stmt := top 33
theorem sc__law_refused : FnScope ["call", "e"] ["call"] (defScope s__law_refused) := ⟨rfl, rfl, rfl, by decide +kernel, rfl, by decide +kernel, by decide +kernel⟩
theorem ref_ok (C : Cx0 K mg base) (o : OBad P w K mg base) : Ref K mg "_law_refused" (clsA K "BadArgument") "name" "" := by
  obtain ⟨fd, F⟩ := C.says.def_ 21 (d := dd "_law_refused" 33) rfl
  have kp := F.kp
  have hb : Binds K fd ["call"] [] := FunD.bindsN F (fun _ _ _ _ _ _ us hl => match us, hl with | [_], _ => rfl)
  obtain ⟨oc, od, dV, kV, doc, pm, an, cdv, ct, osl, rfl, lk, hcd, _, _⟩ := F.ex
  exact ⟨_, oc, od, osl, _, _, _, dV, kV, doc, pm, cdv, ct, an, "call", "e", lk, kp, hcd, He.glo_ok C.kin C.glob (C.says.fact 21 (f := .glo "_law_refused") rfl), hb, sc__law_refused, rfl, ⟨by decide, by decide⟩, fun X eK emg q =>
    ref_gives (e := "BadArgument") rfl (by rw [emg]; exact o.1) (by decide) (by rw [eK]; exact o.2.2.2.2.1.1) (by rw [eK]; exact o.2.2.2.2.1.2) (by rw [eK]; exact o.2.2.2.2.2.1) (by decide +kernel) rfl (by decide) (by decide) (fun _ => rfl) (fun _ => rfl)⟩
abbrev s__law_right : Stmt := top 37
theorem sc__law_right : FnScope ["dice", "start", "one", "other", "same", "ends", "log", "bad", "told"] ["dice"] (defScope s__law_right) := ⟨rfl, rfl, rfl, by decide +kernel, rfl, by decide +kernel, by decide +kernel⟩
def sp_right (Pa : Addr) : Sp := fun vs H Q _ => ∃ d, vs = [.ref d] ∧ Dice 0 H d ∧ LamX.Tabs [(Pa, Q0)] H ∧ ∀ H', EN d H H' → LamX.Tabs [(Pa, Q0)] H' → Q (.bl true) H'
theorem ok__law_right (C : Cx0 K mg base) (o_BadArgument : OBad P w K mg base) (R_law_refused : Ref K mg "_law_refused" (clsA K "BadArgument") "name" "") {Pa : Addr} (TB : LamX.TabB base mg (He.codeOf K ("_law_right", none)) Pa) : CalG P w K mg base 18 "_law_right" ["dice"] (sp_right Pa) := by
  have c__law_roll := ok__law_roll (P := P) (w := w) C
  have c__law_pick := ok__law_pick (P := P) (w := w) C
  have c__law_log := ok__law_log (P := P) (w := w) C
  have c__law_near := ok__law_near (P := P) (w := w) C
  have c__law_same := ok__law_same (P := P) (w := w) C
  have c_is_log := ok_is_log (P := P) (w := w) C
  have c_common := ok_common (P := P) (w := w) C o_BadArgument
  have ck_common := ok_commonK (P := P) (w := w) C o_BadArgument
  have cr_common := ok_commonR (P := P) (w := w) C o_BadArgument
  have c_copied := ok_copied (P := P) (w := w) C o_BadArgument
  have ck_copied := ok_copiedK (P := P) (w := w) C o_BadArgument
  have cr_copied := ok_copiedR (P := P) (w := w) C o_BadArgument
  have c_last_of := ok_last_of (P := P) (w := w) C o_BadArgument
  have ck_last_of := ok_last_ofK (P := P) (w := w) C o_BadArgument
  have c_is_better := ok_is_better (P := P) (w := w) C o_BadArgument
  refine C.calL 25 25 rfl rfl sc__law_right (fun _ _ _ _ _ _ us hl => match us, hl with | [_], _ => rfl) (fun vs H Q E h => ?_) (fun cdv A outer s H vs Q E hcode gd hr h => ⟨_, PSs.nox
    (pss_cons (ps_set (i := 1) sc__law_right.nd rfl (Or.inl rfl) (pe_f c__law_log hr (by first | decide | omega) passL (pa_cons (pv 0) (pa_cons (pe_lst pa_nil) (pa_cons (pe_f c__law_roll hr (by first | decide | omega) passL (pa_cons (pv 0) (pa_cons pe_int pa_nil))) pa_nil)))))
      (pss_cons (ps_asg (pe_tup (pa_cons (pe_bt (k_tuple (K := K) rfl) (C.free 33) (by decide +kernel) (pa_cons (pe_f c__law_log hr (by first | decide | omega) passL (pa_cons (pv 0) (pa_cons (pv 1) (pa_cons (pe_f c__law_roll hr (by first | decide | omega) passL (pa_cons (pv 0) (pa_cons pe_int pa_nil))) pa_nil)))) pa_nil)) (pa_cons (pe_bt (k_tuple (K := K) rfl) (C.free 33) (by decide +kernel) (pa_cons (pe_f c__law_log hr (by first | decide | omega) passL (pa_cons (pv 0) (pa_cons (pv 1) (pa_cons (pe_f c__law_roll hr (by first | decide | omega) passL (pa_cons (pv 0) (pa_cons pe_int pa_nil))) pa_nil)))) pa_nil)) pa_nil))) (k_two (K := K) (i := 2) (j := 3) rfl sc__law_right.nd rfl rfl (Or.inr rfl) (Or.inl rfl) (Or.inl rfl) (Or.inl rfl) rfl))
      (C8.pss_cut (ps_if (PW.pt (pw_and (pt_cmpR (k_ne (K := K) rfl hr) (pv 1) (pe_lst pa_nil) (nomark _)) (pw_and1 (pt_cmpR (k_eq (K := K) rfl hr) (pe_f c__law_roll hr (by first | decide | omega) passL (pa_cons (pv 0) (pa_cons pe_int pa_nil))) pe_int (nomark _))))) (pss_one (ps_set (i := 3) sc__law_right.nd rfl (Or.inl rfl) (pe_op (k_add (K := K) rfl) (pe_bt (k_tuple (K := K) rfl) (C.free 33) (by decide +kernel) (pa_cons (pe_op (k_add (K := K) rfl) (pe_slice (k_sl (K := K) rfl) (pv 1) po_none (po_some (pe_un un_neg pe_int))) (pe_lst (pa_cons (pe_tup (pa_cons (pe_ix (k_ix (K := K) rfl) (pe_ix (k_ix (K := K) rfl) (pv 1) (pe_un un_neg pe_int) (fun _ _ => rfl)) pe_int (fun _ _ => rfl)) (pa_cons (pe_f c__law_pick hr (by first | decide | omega) passL (pa_cons (pv 0) (pa_cons (pe_lst (pa_cons pe_int (pa_cons pe_bl (pa_cons pe_int (pa_cons pe_bl pa_nil))))) pa_nil))) pa_nil))) pa_nil))) pa_nil)) (pe_slice (k_sl (K := K) rfl) (pv 3) (po_some (pe_bi (k_len (K := K) rfl) (C.free 38) (by decide +kernel) (pa_cons (pv 1) pa_nil))) po_none)))) pss_nil)
      (pss_cons (ps_set (i := 4) sc__law_right.nd rfl (Or.inl rfl) (pe_fG c__law_same gd hr (by decide) passL (pa_cons (pv 2) (pa_cons (pv 3) pa_nil))))
      (pss_cons (ps_if (PW.pt (pw_or (pt_cmpR (k_ne (K := K) rfl hr) (pe_fG c_common gd hr (by decide) passL (pa_cons (pv 2) (pa_cons (pv 3) pa_nil))) (pv 4) (nomark _)) (pw_or (pt_cmpR (k_ne (K := K) rfl hr) (pe_kw0G ck_common gd hr (by decide) passL (pk_cons (pv 3) (pk_cons (pv 2) pk_nil))) (pv 4) (nomark _)) (pw_or (pt_not (k_truth (K := K) rfl (pe_f c_is_log hr (by first | decide | omega) passL (pa_cons (pv 2) pa_nil)) (by intro _; rfl))) (pw_or1 (k_truth (K := K) rfl (pe_f c_is_log hr (by first | decide | omega) passL (pa_cons (pe_f c__law_near hr (by first | decide | omega) passL (pa_cons (pv 0) (pa_cons (pe_bt (k_list (K := K) rfl) (C.free 39) (by decide +kernel) (pa_cons (pv 2) pa_nil)) pa_nil))) pa_nil)) (by intro _; rfl))))))) (pss_one (ps_ret pe_bl)) pss_nil)
      (pss_cons (ps_setLc (i := 5) (own := [("log", 6)]) rfl sc__law_right.nd rfl rfl (sw_true rfl rfl rfl (by decide +kernel)) (k_seq (K := K) rfl (pe_tup (pa_cons (pv 2) (pa_cons (pv 3) pa_nil)))) (blkOk_by (N := ["dice", "start", "one", "other", "same", "ends", "log", "bad", "told"]) (sc := defScope s__law_right) (by decide +kernel)) (fun _ _ _ _ _ => (pg_name (i := 6) sc__law_right.nd rfl (Or.inl rfl))) (fun _ _ _ _ _ => pts_nil) (fun _ _ _ _ _ => (pe_tup (pa_cons (pe_ifExp (pt_cmpR (k_ne (K := K) rfl hr) (pv 6) (pe_tup pa_nil) (nomark _)) (pe_ix (k_ix (K := K) rfl) (pe_ix (k_ix (K := K) rfl) (pv 6) (pe_un un_neg pe_int) (fun _ _ => rfl)) pe_int (fun _ _ => rfl)) pe_int) (pa_cons (pe_bi (k_len (K := K) rfl) (C.free 38) (by decide +kernel) (pa_cons (pv 6) pa_nil)) pa_nil)))))
      (pss_cons (ps_if (PW.pt (pw_or (pt_cmpR (k_ne (K := K) rfl hr) (pe_lst (pa_cons (pe_f c_last_of hr (by first | decide | omega) passL (pa_cons (pv 2) pa_nil)) (pa_cons (pe_kw0 ck_last_of hr (by decide) passL (pk_cons (pv 3) pk_nil)) pa_nil))) (pv 5) (nomark _)) (pw_or1 (pt_cmpR (k_ne (K := K) rfl hr) (pe_f c_is_better hr (by first | decide | omega) passL (pa_cons (pv 2) (pa_cons (pv 3) pa_nil))) (pe_cmpR (k_gt (K := K) rfl hr) (pe_ix (k_ix (K := K) rfl) (pv 5) pe_int (fun _ _ => rfl)) (pe_ix (k_ix (K := K) rfl) (pv 5) pe_int (fun _ _ => rfl)) (nomark _)) (nomark _))))) (pss_one (ps_ret pe_bl)) pss_nil)
      (pss_cons (ps_if (PW.pt (pw_or (pt_cmpR (k_ne (K := K) rfl hr) (pe_bi (k_repr (K := K) rfl hr gd) (C.free 41) (by decide +kernel) (pa_cons (pe_fG c_copied gd hr (by decide) passL (pa_cons (pv 2) (pa_cons (pv 3) pa_nil))) pa_nil)) (pe_bi (k_repr (K := K) rfl hr gd) (C.free 41) (by decide +kernel) (pa_cons (pe_slice (k_sl (K := K) rfl) (pv 3) po_none (po_some (pe_op (k_add (K := K) rfl) (pv 4) pe_int))) pa_nil)) (nomark _)) (pw_or1 (pt_cmpR (k_ne (K := K) rfl hr) (pe_bi (k_repr (K := K) rfl hr gd) (C.free 41) (by decide +kernel) (pa_cons (pe_kw0G ck_copied gd hr (by decide) passL (pk_cons (pv 2) (pk_cons (pv 3) pk_nil))) pa_nil)) (pe_bi (k_repr (K := K) rfl hr gd) (C.free 41) (by decide +kernel) (pa_cons (pe_slice (k_sl (K := K) rfl) (pv 2) po_none (po_some (pe_op (k_add (K := K) rfl) (pv 4) pe_int))) pa_nil)) (nomark _))))) (pss_one (ps_ret pe_bl)) pss_nil)
      (pss_cons (ps_set (i := 7) sc__law_right.nd rfl (Or.inr rfl) (pe_f c__law_near hr (by first | decide | omega) passL (pa_cons (pv 0) (pa_cons (pe_bt (k_list (K := K) rfl) (C.free 39) (by decide +kernel) (pa_cons (pv 2) pa_nil)) pa_nil))))
      (pss_cons (ps_set (i := 8) sc__law_right.nd rfl (Or.inl rfl) (pe_lst (pa_cons (pe_ref (k := 15) R_law_refused TB hcode rfl hr (by decide) (LamX.lamS_by (show LamX.lamSB (defScope s__law_right) _ = true by decide +kernel)) rfl (fun _ _ _ _ _ => rfl) (fun A outer s H E f c_ hr => (pe_f cr_common hr (by first | decide | omega) (passes_call (takes_of rfl rfl rfl rfl) fun _ _ _ _ h => h) (pa_cons (pv 7) (pa_cons pe_non pa_nil))))) (pa_cons (pe_ref (k := 15) R_law_refused TB hcode rfl hr (by decide) (LamX.lamS_by (show LamX.lamSB (defScope s__law_right) _ = true by decide +kernel)) rfl (fun _ _ _ _ _ => rfl) (fun A outer s H E f c_ hr => (pe_f cr_common hr (by first | decide | omega) (passes_call (takes_of rfl rfl rfl rfl) fun _ _ _ _ h => h) (pa_cons (pv 2) (pa_cons (pv 7) pa_nil))))) (pa_cons (pe_ref (k := 15) R_law_refused TB hcode rfl hr (by decide) (LamX.lamS_by (show LamX.lamSB (defScope s__law_right) _ = true by decide +kernel)) rfl (fun _ _ _ _ _ => rfl) (fun A outer s H E f c_ hr => (pe_f cr_copied hr (by first | decide | omega) (passes_call (takes_of rfl rfl rfl rfl) fun _ _ _ _ h => h) (pa_cons (pv 2) (pa_cons (pv 7) pa_nil))))) pa_nil)))))
      (pss_cons (ps_set (i := 8) sc__law_right.nd rfl (Or.inl rfl) (pe_op (k_add (K := K) rfl) (pv 8) (pe_lst (pa_cons (pe_ref (k := 15) R_law_refused TB hcode rfl hr (by decide) (LamX.lamS_by (show LamX.lamSB (defScope s__law_right) _ = true by decide +kernel)) rfl (fun _ _ _ _ _ => rfl) (fun A outer s H E f c_ hr => (pe_f c_last_of hr (by first | decide | omega) (passes_call (takes_of rfl rfl rfl rfl) fun _ _ _ _ h => h) (pa_cons (pv 7) pa_nil)))) (pa_cons (pe_ref (k := 15) R_law_refused TB hcode rfl hr (by decide) (LamX.lamS_by (show LamX.lamSB (defScope s__law_right) _ = true by decide +kernel)) rfl (fun _ _ _ _ _ => rfl) (fun A outer s H E f c_ hr => (pe_f c_is_better hr (by first | decide | omega) (passes_call (takes_of rfl rfl rfl rfl) fun _ _ _ _ h => h) (pa_cons (pv 7) (pa_cons (pv 7) pa_nil))))) (pa_cons (pe_ref (k := 15) R_law_refused TB hcode rfl hr (by decide) (LamX.lamS_by (show LamX.lamSB (defScope s__law_right) _ = true by decide +kernel)) rfl (fun _ _ _ _ _ => rfl) (fun A outer s H E f c_ hr => (pe_f cr_copied hr (by first | decide | omega) (passes_call (takes_of rfl rfl rfl rfl) fun _ _ _ _ h => h) (pa_cons (pv 7) (pa_cons (pv 7) pa_nil))))) pa_nil))))))
      (pss_one (ps_ret (pe_cmpR (k_eq (K := K) rfl hr) (pv 8) (pe_lst (pa_cons pe_str (pa_cons pe_str (pa_cons pe_str (pa_cons pe_str (pa_cons pe_str (pa_cons pe_str pa_nil))))))) (nomark _))))))))))))))), ?_⟩)
  · obtain ⟨d, rfl, _⟩ := h
    rfl
  · obtain ⟨d, rfl, hd, ht, k⟩ := h
    repeat walk_at "rd"
    refine ⟨(show 0 ≤ sizeLine by decide), fun q0 hq0 => ?_⟩
    repeat walk_at "rd"
    refine ⟨d, 5, 0, rfl, hd.fresh hq0, by decide, by decide, by decide, fun r0 H1 r00 r01 e1 d1 => ?_⟩
    obtain ⟨m0, rfl⟩ := Int.eq_ofNat_of_zero_le r00
    have nq0 : q0 ≠ d := hd.ne hq0
    have t1 := (hd.fresh hq0).tabs e1 (ht.ext (Ex.new (o := .lst []) hq0))
    have ex1 : EN d H H1 := (EN.e (Ex.new hq0)).tr (EN.b e1)
    repeat walk_at "rd"
    refine ⟨d, q0, m0, _, [], [], 1, rfl, d1, by omega, sqL_of (e1 _ _ nq0 upd_same), .nil, nq0, GoodL.nil 1, by decide, by omega, by decide, by omega, fun ps H2 us0 l0 e2 f2 nps h2 a2 ll0 g0 d2 => ?_⟩
    rw [List.nil_append] at a2 g0
    have t2 := d1.tabs e2 t1
    have ex2 : EN d H H2 := ex1.tr (EN.b e2)
    repeat walk_at "rd"
    refine ⟨d, 4, _, rfl, d2, by omega, by decide, by decide, fun r1 H3 r10 r11 e3 d3 => ?_⟩
    obtain ⟨m1, rfl⟩ := Int.eq_ofNat_of_zero_le r10
    obtain ⟨zs2, hz2⟩ := d2.lst
    have nl0 := nl_of (show 1 + 3 * (m0 : Int) ≤ 1000 by omega) g0
    have a3 := DpA.en hz2 (EN.b e3) nl0 a2
    have h3 := e3 _ _ nps h2
    repeat walk_at "rd"
    refine ⟨d, ps, m1, _, us0, l0, 1 + 3 * m0, rfl, d3, by omega, sqL_of h3, a3, nps, g0, by omega, by omega, by omega, by omega, fun pa H4 us1 l1 e4 f4 npa h4 a4 ll1 g1 d4 => ?_⟩
    repeat walk_at "rd"
    refine r_tupL (sqL_of h4) fun p1 hp1 => ?_
    have v1 : LogV K (upd H4 p1 (.tup us1)) p1 (l0 ++ l1) := ⟨us1, sqT_new, DpA.ex (Ex.new hp1) a4, g1.mono (by omega), by rw [List.length_append]; omega⟩
    obtain ⟨zs3, hz3⟩ := d3.lst
    have a5 := DpA.ex (Ex.new (o := .tup us1) hp1) (DpA.en hz3 (EN.b e4) nl0 a3)
    have h5 : upd H4 p1 (.tup us1) ps = some (.lst us0) := at_up hp1 (e4 _ _ nps h3)
    have d5 := d4.fresh (o := .tup us1) hp1
    have ex5 : EN d H (upd H4 p1 (.tup us1)) := ((ex2.tr (EN.b e3)).tr (EN.b e4)).tr (EN.e (Ex.new hp1))
    have t5 := (d3.tabs e4 (d2.tabs e3 t2)).ext (Ex.new (o := .tup us1) hp1)
    clear a2 a3 a4 h2 h3 h4 hz2 hz3 t1 t2 ex1 ex2 d1 d2 d3 d4 e1 e2 e3 e4 hd ht f2 f4
    generalize upd H4 p1 (.tup us1) = H5 at *
    repeat walk_at "rd"
    refine ⟨d, 4, _, rfl, d5, by omega, by decide, by decide, fun r2 H6 r20 r21 e6 d6 => ?_⟩
    obtain ⟨m2, rfl⟩ := Int.eq_ofNat_of_zero_le r20
    obtain ⟨zs5, hz5⟩ := d5.lst
    have a6 := DpA.en hz5 (EN.b e6) nl0 a5
    have h6 := e6 _ _ nps h5
    have v16 := v1.exb d5 e6
    repeat walk_at "rd"
    refine ⟨d, ps, m2, _, us0, l0, 1 + 3 * m0, rfl, d6, by omega, sqL_of h6, a6, nps, g0, by omega, by omega, by omega, by omega, fun pb H7 us2 l2 e7 f7 npb h7 a7 ll2 g2 d7 => ?_⟩
    repeat walk_at "rd"
    refine r_tupL (sqL_of h7) fun p2 hp2 => ?_
    repeat walk_at "rd"
    refine ⟨(show 2 ≤ sizeLine by decide), fun pp hpp => ?_⟩
    refine g_two ?_
    have x8 : Ex H7 (upd (upd H7 p2 (.tup us2)) pp (.tup [.ref p1, .ref p2])) := (Ex.new hp2).trans (Ex.new hpp)
    have s28 : SqT K (upd (upd H7 p2 (.tup us2)) pp (.tup [.ref p1, .ref p2])) p2 us2 := sqT_up hpp sqT_new
    have a28 := DpA.ex x8 a7
    have v18 := (v16.exb d6 e7).ex x8
    obtain ⟨zs6, hz6⟩ := d6.lst
    have a8 := DpA.ex x8 (DpA.en hz6 (EN.b e7) nl0 a6)
    have h8 := x8 _ _ (e7 _ _ nps h6)
    have d8 := d7.ex x8
    have ex8 : EN d H (upd (upd H7 p2 (.tup us2)) pp (.tup [.ref p1, .ref p2])) := ((ex5.tr (EN.b e6)).tr (EN.b e7)).tr (EN.e x8)
    have t8 := (d6.tabs e7 (d5.tabs e6 t5)).ext x8
    clear a5 a6 a7 h5 h6 h7 hz5 hz6 t5 ex5 d5 d6 d7 e6 e7 v1 v16 x8 f7 hp2 hpp
    generalize upd (upd H7 p2 (.tup us2)) pp (.tup [.ref p1, .ref p2]) = H8 at *
    repeat walk_at "rd"
    refine r_cut (fun σ' H' => ∃ (po : Addr) (l' : List Ent) (n' : Nat), σ' = [some (.ref d), some (.ref ps), some (.ref p1), some (.ref po), none, none, none, none, none] ∧ LogV K H' p1 (l0 ++ l1) ∧ LogV K H' po l' ∧ Dice n' H' d ∧ n' ≤ 100000 ∧ EN d H H' ∧ LamX.Tabs [(Pa, Q0)] H') ?_ ?_
    · have lu0 : us0.length = l0.length := by rw [DpA.length a8, dL_len]
      have fin0 := dE_fine (by omega) g0
      have vo8 : LogV K H8 p2 (l0 ++ l2) := ⟨us2, s28, a28, g2.mono (by omega), by rw [List.length_append]; omega⟩
      repeat walk_at "rd"
      refine ⟨(show 0 ≤ sizeLine by decide), fun z hz => ?_⟩
      refine r_neE (d := .list (dL l0)) (e := .list []) (.lst (sqL_up hz (sqL_of h8)) (DpA.ex (Ex.new hz) a8)) (.lst sqL_new .nil) (shaped_list fin0 (by decide)) (by decide +kernel) ?_
      rw [show PyData.eqv (.list (dL l0)) (.list []) = (dL l0).isEmpty by simp only [PyData.eqv, eqvA_nil]]
      have xz : Ex H8 (upd H8 z (.lst [])) := Ex.new hz
      have v19 := v18.ex xz
      have vo9 := vo8.ex xz
      have d9 := d8.ex xz
      have ex9 := ex8.tr (EN.e xz)
      have t9 := t8.ext xz
      have h9 := xz _ _ h8
      have a9 := DpA.ex xz a8
      have s29 := sqT_ex xz s28
      have a29 := DpA.ex xz a28
      clear v18 vo8 d8 ex8 t8 h8 a8 s28 a28 xz hz
      generalize upd H8 z (.lst []) = H9 at *
      cases c : (dL l0).isEmpty with
      | true =>
        repeat walk_at "rd"
        exact ⟨p2, _, _, rfl, v19, vo9, d9, by omega, ex9, t9⟩
      | false =>
        repeat walk_at "rd"
        refine ⟨d, 3, _, rfl, d9, by omega, by decide, by decide, fun r H10 r0 r1 e10 d10 => ?_⟩
        have v110 := v19.exb d9 e10
        have vo10 := vo9.exb d9 e10
        have ex10 := ex9.tr (EN.b e10)
        have t10 := d9.tabs e10 t9
        repeat walk_at "rd"
        by_cases c0 : r = 0
        · refine r_T (decide_eq_true c0) ?_
          obtain ⟨zs9, hz9⟩ := d9.lst
          have h10 := e10 _ _ nps h9
          have a10 := DpA.en hz9 (EN.b e10) nl0 a9
          have s210 := sqT_xb hz9 e10 s29
          have a210 := DpA.en hz9 (EN.b e10) (nl_of (by omega) g2) a29
          have lx : l0.length - 1 < l0.length := by
            cases l0 with
            | nil => cases c
            | cons => simp
          have hx : l0[l0.length - 1]? = some l0[l0.length - 1] := List.getElem?_eq_getElem lx
          have hdx : (dL l0)[(dL l0).length - 1]? = some (dE l0[l0.length - 1]) := by
            rw [dL_len]
            unfold dL
            rw [List.getElem?_map, hx]; rfl
          obtain ⟨e0, he0⟩ : ∃ e0, e0 = l0[l0.length - 1] := ⟨_, rfl⟩
          rw [← he0] at hx hdx
          obtain ⟨u1, hu1, du⟩ := DpA.at a10 hdx
          rw [dL_len, ← lu0] at hu1
          obtain ⟨ae, y, rfl, sE⟩ : ∃ ae y, u1 = .ref ae ∧ SqT K H10 ae [.int e0.1, y] := by
            cases du with
            | tup h1 h2 =>
              cases h2 with
              | cons h3 h4 =>
                cases h3
                cases h4 with
                | cons h5 h6 =>
                  cases h6
                  exact ⟨_, _, rfl, h1⟩
          clear du v19 vo9 d9 ex9 t9 h9 a9 s29 a29 hz9 e10 vo10
          repeat walk_at "rd"
          refine r_slL (sqL_of h10) fun s1 hs1 => ?_
          rw [cut_m1]
          repeat walk_at "rd"
          refine r_ixM (k := .l) (sqL_up hs1 (sqL_of h10)) (atI_last hu1) ?_
          repeat walk_at "rd"
          refine r_ixS (k := .t) (i := 0) (sqT_up hs1 sE) rfl ?_
          repeat walk_at "rd"
          refine ⟨(show 4 ≤ sizeLine by decide), fun s2 hs2 => ?_⟩
          repeat walk_at "rd"
          refine ⟨d, s2, .l, _, _, rfl, (d10.fresh hs1).fresh hs2, by omega, (d10.fresh hs1).ne hs2, sqL_new, (show 0 < 4 by decide), (show 4 < 1000000 by decide), fun j v H11 hv e11 d11 => ?_⟩
          have ns1 : s1 ≠ d := d10.ne hs1
          obtain ⟨x, dx, fx⟩ : ∃ x, (∀ H' : Hp, Dp K H' v x) ∧ Fine 2 x := by
            match j, hv with
            | 0, hv => cases hv; exact ⟨.int 1, fun _ => .int _, Fine.int 2 (by decide)⟩
            | 1, hv => cases hv; exact ⟨.bool true, fun _ => .bl _, Fine.bl 2 _⟩
            | 2, hv => cases hv; exact ⟨.int 0, fun _ => .int _, Fine.int 2 (by decide)⟩
            | 3, hv => cases hv; exact ⟨.bool false, fun _ => .bl _, Fine.bl 2 _⟩
            | j + 4, hv => cases hv
          have up11 : ExB d H10 H11 := (ExB.of ((Ex.new hs1).trans (Ex.new hs2))).trans e11
          obtain ⟨zs10, hz10⟩ := d10.lst
          have q11 : H11 s1 = some (.lst (us0.take (us0.length - 1))) := e11 _ _ ns1 (at_up hs2 upd_same)
          have h11 := up11 _ _ nps h10
          have a11 := DpA.en hz10 (EN.b up11) nl0 a10
          have s211 := sqT_xb hz10 up11 s210
          have a211 := DpA.en hz10 (EN.b up11) (nl_of (by omega) g2) a210
          have v111 := v110.exb d10 up11
          have ex11 := ex10.tr (EN.b up11)
          have t11 := d10.tabs up11 t10
          clear e11 h10 a10 s210 a210 v110 ex10 t10 d10 hz10 up11 hs1 hs2 sE
          repeat walk_at "rd"
          refine ⟨(show 2 ≤ sizeLine by decide), fun s3 hs3 => ?_⟩
          repeat walk_at "rd"
          refine ⟨(show 1 ≤ sizeLine by decide), fun s4 hs4 => ?_⟩
          have big : 1000 ≤ sizeLine := by decide
          refine r_catL (xs := us0.take (us0.length - 1)) (ys := [.ref s3]) (by walk_at "hl") upd_same (by rw [List.length_take, List.length_singleton]; omega) fun s5 hs5 => ?_
          repeat walk_at "rd"
          refine r_tupL sqL_new fun s6 hs6 => ?_
          repeat walk_at "rd"
          refine r_lenL (xs := us0) (sqL_of (by walk_at "hl")) ?_
          repeat walk_at "rd"
          refine r_slT (xs := us2) (by walk_at "hl") fun s7 H12 e12 h12 => ?_
          rw [cut_from] at h12
          have x12 : Ex H11 H12 := Ex.trans (by walk_at "ex") e12
          have k3 : SqT K H12 s3 [.int e0.1, v] := sqT_ex e12 (by walk_at "hl")
          have k6 : SqT K H12 s6 (us0.take (us0.length - 1) ++ [.ref s3]) := sqT_ex e12 (by walk_at "hl")
          have lu2 : us2.length = l0.length + l2.length := by rw [DpA.length a211, dL_len, List.length_append]
          refine r_catT k6 h12 (by rw [List.length_append, List.length_take, List.length_singleton, List.length_drop]; omega) fun s8 H13 e13 h13 => ?_
          have x13 := x12.trans e13
          have nd : (dL l0).take (us0.length - 1) ++ [dE (e0.1, x)] ++ (dL (l0 ++ l2)).drop us0.length = dL ((l0.take (l0.length - 1) ++ [(e0.1, x)]) ++ l2) := by
            rw [dL_take, dL_drop, lu0, List.drop_left, dL_app, dL_app]; rfl
          refine ⟨s8, (l0.take (l0.length - 1) ++ [(e0.1, x)]) ++ l2, _, rfl, v111.ex x13, ⟨_, h13, ?_, (g2.swap hx fx).mono (by omega), ?_⟩, d11.ex x13, by omega, ex11.tr (EN.e x13), t11.ext x13⟩
          · rw [← nd]
            exact DpA.append (DpA.append (DpA.take (DpA.ex x13 a11) _) (.cons (.tup (sqT_ex e13 k3) (.cons (.int _) (.cons (dx _) .nil))) .nil)) (DpA.drop (DpA.ex x13 a211) _)
          · rw [List.length_append, List.length_append, List.length_take, List.length_singleton]
            omega
        · refine r_F (decide_eq_false c0) ?_
          repeat walk_at "rd"
          exact ⟨p2, _, _, rfl, v110, vo10, d10, by omega, ex10, t10⟩
    · rintro σ' H9 ⟨po, l', n9, rfl, v1, vo, d9, n90, ex9, t9⟩
      obtain ⟨L1, eL1⟩ : ∃ L1, L1 = l0 ++ l1 := ⟨_, rfl⟩
      rw [← eL1] at v1
      clear eL1
      have r1 := v1.row
      have ro := vo.row
      have gg1 : GoodL 1000 L1 ∧ L1.length ≤ 12 := by obtain ⟨_, _, _, q⟩ := v1; exact q
      have ggo : GoodL 1000 l' ∧ l'.length ≤ 12 := by obtain ⟨_, _, _, q⟩ := vo; exact q
      obtain ⟨us1', s1, b1, _⟩ := id v1
      obtain ⟨uso, so, bo, _⟩ := id vo
      repeat walk_at "rd"
      refine ⟨p1, po, us1', uso, dL L1, dL l', rfl, s1, b1, so, bo, r1, ro, fun H10 e10 => ?_⟩
      obtain ⟨c, ec⟩ : ∃ c, c = comN (dL L1) (dL l') := ⟨_, rfl⟩
      rw [← ec]
      repeat walk_at "rd"
      refine ⟨.ref p1, .ref po, dL L1, dL l', rfl, (v1.ex e10).at, (vo.ex e10).at, r1, ro, fun H11 e11 => ?_⟩
      rw [← ec]
      repeat walk_at "rd"
      rw [decide_eq_true rfl]
      repeat walk_at "rd"
      have x11 := e10.trans e11
      refine ⟨rfl, .ref p1, .ref po, dL L1, dL l', rfl, (v1.ex x11).at, (vo.ex x11).at, r1, ro, fun H12 e12 => ?_⟩
      rw [← ec]
      repeat walk_at "rd"
      rw [decide_eq_true rfl]
      repeat walk_at "rd"
      have x12 := x11.trans e12
      have at12 := (v1.ex x12).at
      refine ⟨.ref p1, _, rfl, at12.1, at12.2.2, fun H13 e13 => ?_⟩
      rw [at12.2.1]
      repeat walk_at "rd"
      have x13 := x12.trans e13
      refine r_listT (sqT_ex x13 s1) fun pl hpl => ?_
      repeat walk_at "rd"
      have d13 := d9.ex x13
      refine ⟨d, pl, n9, us1', L1, 1000, rfl, d13.fresh hpl, by omega, upd_same, DpA.ex (x13.trans (Ex.new hpl)) b1, d13.ne hpl, gg1.1, by decide, by omega, fun v H14 e14 d14 bv => ?_⟩
      obtain ⟨p, dp, np, wp⟩ := bv H14 (ExB.refl _ _)
      repeat walk_at "rd"
      refine ⟨v, p, rfl, dp, wp, fun H15 e15 => ?_⟩
      rw [np]
      have up15 : ExB d H9 H15 := ((ExB.of (x13.trans (Ex.new hpl))).trans e14).trans (ExB.of e15)
      have v15 := v1.exb d9 up15
      have vo15 := vo.exb d9 up15
      have d15 := d14.ex e15
      have ex15 := ex9.tr (EN.b up15)
      have t15 := d9.tabs up15 t9
      clear v1 vo d9 ex9 t9 s1 b1 so bo e10 e11 e12 e13 e14 e15 x11 x12 x13 at12 d13 d14 up15 bv dp hpl
      repeat walk_at "rd"
      refine ⟨(show 2 ≤ sizeLine by decide), fun pq hpq => ?_⟩
      refine c_seqR (k := .t) sqT_new (fun i => if i = 0 then lastD (dL L1) else lastD (dL l')) (by show 2 < 16000000; decide) (fun _ => rfl) ?_ ?_
      · intro i v H16 q N hv e16 hq
        obtain ⟨al, L, rfl, VL, ef⟩ : ∃ al L, v = .ref al ∧ LogV K H16 al L ∧ (if i = 0 then lastD (dL L1) else lastD (dL l')) = lastD (dL L) := by
          match i, hv with
          | 0, hv => cases hv; exact ⟨p1, L1, rfl, (v15.ex (Ex.new hpq)).ex e16, rfl⟩
          | 1, hv => cases hv; exact ⟨po, l', rfl, (vo15.ex (Ex.new hpq)).ex e16, rfl⟩
          | i + 2, hv => cases hv
        rw [ef] at hq
        obtain ⟨us, sL, bL, gL, lL⟩ := VL
        have lus : us.length = L.length := by rw [DpA.length bL, dL_len]
        repeat walk_at "rd"
        refine ⟨(show 0 ≤ sizeLine by decide), fun z hz => ?_⟩
        refine r_neE (d := .tuple (dL L)) (e := .tuple []) (.tup (sqT_up hz sL) (DpA.ex (Ex.new hz) bL)) (.tup sqT_new .nil) (shaped_tup (dE_fine (by decide) gL) (by decide)) (by decide +kernel) ?_
        rw [show PyData.eqv (.tuple (dL L)) (.tuple []) = (dL L).isEmpty by simp only [PyData.eqv, eqvA_nil]]
        repeat walk_at "rd"
        obtain ⟨t, ht⟩ : ∃ t : Int, lastD (dL L) = [t, (L.length : Int)] ∧ ((L = [] ∧ t = 0) ∨ ∃ e, L[L.length - 1]? = some e ∧ e.1 = t) := by
          unfold lastD
          cases L with
          | nil => exact ⟨0, rfl, .inl ⟨rfl, rfl⟩⟩
          | cons a m =>
            have lx : (a :: m).length - 1 < (a :: m).length := by simp
            have hx : (a :: m)[(a :: m).length - 1]? = some (a :: m)[(a :: m).length - 1] := List.getElem?_eq_getElem lx
            refine ⟨((a :: m)[(a :: m).length - 1]).1, ?_, .inr ⟨_, hx, rfl⟩⟩
            rw [dL_len]
            have hdx : (dL (a :: m))[(a :: m).length - 1]? = some (dE (a :: m)[(a :: m).length - 1]) := by
              unfold dL
              rw [List.getElem?_map, hx]; rfl
            rw [hdx]; rfl
        rw [ht.1] at hq
        refine r_alt (.int t) (fun hb Q' q' => ?_) (fun hb Q' q' => ?_) ?_
        · rcases ht.2 with ⟨rfl, _⟩ | ⟨e, he, rfl⟩
          · cases hb
          · have hx : (dL L)[(dL L).length - 1]? = some (dE e) := by
              rw [dL_len]
              unfold dL
              rw [List.getElem?_map, he]; rfl
            obtain ⟨u1, hu1, du⟩ := DpA.at bL hx
            rw [dL_len, ← lus] at hu1
            cases du with
            | tup h1 h2 =>
              cases h2 with
              | cons h3 h4 =>
                cases h3
                repeat walk_at "rd"
                refine r_ixM (k := .t) (sqT_up hz sL) (atI_last hu1) ?_
                repeat walk_at "rd"
                refine r_ixS (k := .t) (i := 0) (sqT_up hz h1) rfl ?_
                exact q'
        · rcases ht.2 with ⟨rfl, rfl⟩ | ⟨e, he, rfl⟩
          · exact q'
          · have : (dL L).isEmpty = false := by
              cases L with
              | nil => cases he
              | cons => rfl
            rw [this] at hb
            cases hb
        repeat walk_at "rd"
        refine r_lenT (sqT_up hz sL) ?_
        repeat walk_at "rd"
        refine ⟨(show 2 ≤ sizeLine by decide), fun pr hpr => hq _ _ ((Ex.new hz).trans (Ex.new hpr)) ⟨pr, rfl, ?_⟩⟩
        rw [lus]
        exact sqT_new
      intro pe H17 ws hpe e17 h17 rows
      have x17 : Ex H15 H17 := (Ex.new hpq).trans e17
      have rows2 : Rws K H17 ws [lastD (dL L1), lastD (dL l')] := rows
      clear rows e17 hpe hpq
      have v17 := v15.ex x17
      have vo17 := vo15.ex x17
      have d17 := d15.ex x17
      have ex17 := ex15.tr (EN.e x17)
      have t17 := t15.ext x17
      clear v15 vo15 d15 ex15 t15 x17
      repeat walk_at "rd"
      refine ⟨.ref p1, rfl, .inr ⟨dL L1, v17.at, fun qa H18 e18 ha => ?_⟩⟩
      repeat walk_at "rd"
      refine ⟨rfl, .ref po, rfl, .inr ⟨dL l', (vo17.ex e18).at, fun qb H19 e19 hb => ?_⟩⟩
      repeat walk_at "rd"
      refine ⟨(show 2 ≤ sizeLine by decide), fun qd hqd => ?_⟩
      have x19 := (e18.trans e19).trans (Ex.new (o := .lst [.ref qa, .ref qb]) hqd)
      repeat walk_at "rd"
      refine r_neRR sqL_new (sqL_of (x19 _ _ h17)) (.cons ⟨qa, rfl, sqT_up hqd (sqT_ex e19 ha)⟩ (.cons ⟨qb, rfl, sqT_up hqd hb⟩ .nil)) (rows2.ex x19) ?_
      repeat walk_at "rd"
      refine ⟨.ref p1, .ref po, rfl, .inr ⟨dL L1, dL l', (v17.ex x19).at, (vo17.ex x19).at, fun H20 e20 => ?_⟩⟩
      have x20 := x19.trans e20
      have rows3 := rows2.ex x20
      have h20 := x20 _ _ h17
      repeat walk_at "rd"
      cases rows3 with
      | cons k1 rows3 =>
      cases rows3 with
      | cons k2 rows3 =>
      cases rows3
      obtain ⟨w1, rfl, k1⟩ := k1
      obtain ⟨w2, rfl, k2⟩ := k2
      refine r_ixS (k := .l) (i := 0) (sqL_of h20) rfl ?_
      repeat walk_at "rd"
      refine r_ixS (k := .l) (i := 1) (sqL_of h20) rfl ?_
      repeat walk_at "rd"
      refine r_gtTT k1 k2 ?_
      refine .inl ⟨rfl, ?_⟩
      rw [decide_eq_true rfl]
      have v20 := v17.ex x20
      have vo20 := vo17.ex x20
      have d20 := d17.ex x20
      have ex20 := ex17.tr (EN.e x20)
      have t20 := t17.ext x20
      clear v17 vo17 d17 ex17 t17 x19 x20 e18 e19 e20 h17 h20 rows2 k1 k2 hqd ha hb
      repeat walk_at "rd"
      refine ⟨.ref p1, .ref po, dL L1, dL l', rfl, v20.at, vo20.at, r1, ro, fun ra H21 e21 da => ?_⟩
      rw [← ec, dL_take] at da
      have shw : ∀ {L : List Ent} (n : Nat), GoodL 1000 L ∧ L.length ≤ 12 → Shw (.tuple (dL (L.take n))) := fun n g => log_fine (by decide) (g.1.take n) (by rw [List.length_take]; omega)
      repeat walk_at "rd"
      refine r_reprD da rfl (shw _ ggo) ?_
      repeat walk_at "rd"
      obtain ⟨uso, so, bo, _⟩ := vo20.ex e21
      refine r_slT so fun rb H22 e22 h22 => ?_
      rw [show ((c : Nat) : Int) + 1 = ((c + 1 : Nat) : Int) by omega, cut_lo] at h22
      have db : Dp K H22 (.ref rb) (.tuple (dL (l'.take (c + 1)))) := .tup h22 (by rw [← dL_take]; exact DpA.take (DpA.ex e22 bo) _)
      repeat walk_at "rd"
      refine r_reprD db rfl (shw _ ggo) ?_
      repeat walk_at "rd"
      rw [decide_eq_true rfl]
      repeat walk_at "rd"
      have x22 := e21.trans e22
      refine ⟨rfl, .ref po, .ref p1, dL l', dL L1, rfl, (vo20.ex x22).at, (v20.ex x22).at, ro, r1, fun rc H23 e23 dc => ?_⟩
      rw [comN_symm, ← ec, dL_take] at dc
      repeat walk_at "rd"
      refine r_reprD dc rfl (shw _ gg1) ?_
      repeat walk_at "rd"
      obtain ⟨us1, s1, b1, _⟩ := v20.ex (x22.trans e23)
      refine r_slT s1 fun rd' H24 e24 h24 => ?_
      rw [show ((c : Nat) : Int) + 1 = ((c + 1 : Nat) : Int) by omega, cut_lo] at h24
      have dd' : Dp K H24 (.ref rd') (.tuple (dL (L1.take (c + 1)))) := .tup h24 (by rw [← dL_take]; exact DpA.take (DpA.ex e24 b1) _)
      repeat walk_at "rd"
      refine r_reprD dd' rfl (shw _ gg1) ?_
      repeat walk_at "rd"
      rw [decide_eq_true rfl]
      have x24 := (x22.trans e23).trans e24
      have v24 := v20.ex x24
      have d24 := d20.ex x24
      have ex24 := ex20.tr (EN.e x24)
      have t24 := t20.ext x24
      clear v20 vo20 d20 ex20 t20 x22 x24 e21 e22 e23 da db dc dd' h22 h24 so bo shw s1 b1
      repeat walk_at "rd"
      obtain ⟨us1, s1, b1, _⟩ := id v24
      refine r_listT s1 fun pl hpl => ?_
      repeat walk_at "rd"
      refine ⟨d, pl, _, us1, L1, 1000, rfl, d24.fresh hpl, by omega, upd_same, DpA.ex (Ex.new hpl) b1, d24.ne hpl, gg1.1, by decide, by omega, fun bad H25 e25 d25 bv => ?_⟩
      have up25 : ExB d H24 H25 := (ExB.of (Ex.new hpl)).trans e25
      have v25 := v24.exb d24 up25
      have ex25 := ex24.tr (EN.b up25)
      have t25 := d24.tabs up25 t24
      have no25 := bv H25 (ExB.refl _ _)
      clear v24 d24 ex24 t24 up25 e25 bv s1 b1 hpl
      repeat walk_at "rd"
      refine r_ref t25 fun H26 e26 t26 => ?_
      repeat walk_at "rd"
      refine ⟨bad, .non, rfl, .inl ⟨no25.exn e26, fun dd H27 f27 e27 a27 => ⟨rfl, dd, _, rfl, a27, ?_⟩⟩⟩
      have x27 : ExN H25 H27 := e26.tr (ExN.of e27)
      repeat walk_at "rd"
      refine r_ref (t26.ext e27) fun H28 e28 t28 => ?_
      have x28 := x27.tr e28
      repeat walk_at "rd"
      refine ⟨.ref p1, bad, rfl, .inr ⟨dL L1, (v25.exn x28).at, no25.exn x28, fun dd H29 f29 e29 a29 => ⟨rfl, dd, _, rfl, a29, ?_⟩⟩⟩
      have x29 := x28.tr (ExN.of e29)
      repeat walk_at "rd"
      refine r_ref (t28.ext e29) fun H30 e30 t30 => ?_
      have x30 := x29.tr e30
      repeat walk_at "rd"
      refine ⟨.ref p1, bad, rfl, .inr ⟨dL L1, (v25.exn x30).at, no25.exn x30, fun dd H31 f31 e31 a31 => ⟨rfl, dd, _, rfl, a31, ?_⟩⟩⟩
      have x31 := x30.tr (ExN.of e31)
      have t31 := t30.ext e31
      repeat walk_at "rd"
      refine ⟨(show 3 ≤ sizeLine by decide), fun pA hA => ?_⟩
      have xA := x31.tr (ExN.of (Ex.new (o := .lst [.str "one", .str "other", .str "lead"]) hA))
      have tA := t31.ext (Ex.new (o := .lst [.str "one", .str "other", .str "lead"]) hA)
      have hAA : upd H31 pA (.lst [.str "one", .str "other", .str "lead"]) pA = some (.lst [.str "one", .str "other", .str "lead"]) := upd_same
      clear t25 t26 t28 t30 t31 e26 e27 e28 e29 e30 e31 x27 x28 x29 x30 x31 hA
      generalize upd H31 pA (.lst [.str "one", .str "other", .str "lead"]) = H32 at *
      repeat walk_at "rd"
      refine r_ref tA fun H33 e33 t33 => ?_
      have x33 := xA.tr e33
      repeat walk_at "rd"
      refine ⟨bad, rfl, .inl ⟨no25.exn x33, fun dd H34 f34 e34 a34 => ⟨rfl, dd, _, rfl, a34, ?_⟩⟩⟩
      have x34 := x33.tr (ExN.of e34)
      repeat walk_at "rd"
      refine r_ref (t33.ext e34) fun H35 e35 t35 => ?_
      have x35 := x34.tr e35
      repeat walk_at "rd"
      refine ⟨bad, bad, rfl, .inl ⟨no25.exn x35, fun dd H36 f36 e36 a36 => ⟨rfl, dd, _, rfl, a36, ?_⟩⟩⟩
      have x36 := x35.tr (ExN.of e36)
      repeat walk_at "rd"
      refine r_ref (t35.ext e36) fun H37 e37 t37 => ?_
      have x37 := x36.tr e37
      repeat walk_at "rd"
      refine ⟨bad, bad, rfl, .inl ⟨no25.exn x37, fun dd H38 f38 e38 a38 => ⟨rfl, dd, _, rfl, a38, ?_⟩⟩⟩
      have x38 := x37.tr (ExN.of e38)
      have y38 : ExN H32 H38 := ((((e33.tr (ExN.of e34)).tr e35).tr (ExN.of e36)).tr e37).tr (ExN.of e38)
      have hA38 : H38 pA = some (.lst [.str "one", .str "other", .str "lead"]) := y38 _ _ hAA fun _ z => by cases z
      repeat walk_at "rd"
      refine ⟨(show 3 ≤ sizeLine by decide), fun pB hB => ?_⟩
      refine r_catL (xs := [.str "one", .str "other", .str "lead"]) (ys := [.str "log", .str "one", .str "log"]) (at_up hB hA38) upd_same (show 6 ≤ sizeLine by decide) fun pC hC => ?_
      repeat walk_at "rd"
      refine ⟨(show 6 ≤ sizeLine by decide), fun pD hD => ?_⟩
      refine r_eqSS (xs := ["one", "other", "lead", "log", "one", "log"]) (ys := ["one", "other", "lead", "log", "one", "log"]) (sqL_up hD sqL_new) sqL_new (by decide +kernel) (by decide +kernel) ?_
      rw [decide_eq_true rfl]
      exact k _ (ex25.tr ((EN.n x38).tr ((EN.e (Ex.new hB)).tr ((EN.e (Ex.new hC)).tr (EN.e (Ex.new hD)))))) ((((t37.ext e38).ext (Ex.new hB)).ext (Ex.new hC)).ext (Ex.new hD))
end
end K42

namespace K42
section
variable {P : Program} {w : World} {K : PySem.W.Frag} {mg : Str → Option Value} {base : Heap}
theorem no_at {H : Hp} {a : Addr} (h : SqT K H a []) : LogAt K H (.ref a) [] := ⟨.tup h .nil, rfl, by decide +kernel⟩
theorem no_row : RowOk [] := ⟨by decide, fun p h => nomatch h⟩
abbrev s_law : Stmt := top 38
theorem sc_law : FnScope ["script", "spot"] ["script"] (defScope s_law) := ⟨rfl, rfl, rfl, by decide +kernel, rfl, by decide +kernel, by decide +kernel⟩
def sp_law (K : PySem.W.Frag) (Pa : Addr) : Sp := fun vs H Q _ => ∃ (a : Addr) (ns : List Int), vs = [.ref a] ∧ SqL K H a (ns.map V.int) ∧ ns.length ≤ 63 ∧ LamX.Tabs [(Pa, Q0)] H ∧ ∀ H', Q (.bl true) H'
theorem ok_law {f0 : Addr} {fd0 : FuncData} (F : FunD K "law" "law" (defArgs s_law) (defBody s_law) (defScope s_law) [] [] f0 fd0) (C : Cx0 K mg base) (o_BadArgument : OBad P w K mg base) {Pa : Addr} (TB : LamX.TabB base mg (He.codeOf K ("_law_right", none)) Pa) : FnG P w K mg base 19 f0 fd0 ["script"] (sp_law K Pa) := by
  have c__law_right := ok__law_right (P := P) (w := w) C o_BadArgument (ref_ok C o_BadArgument) TB
  have c__law_dice := ok__law_dice (P := P) (w := w) C
  have c_common := ok_common (P := P) (w := w) C o_BadArgument
  have c_copied := ok_copied (P := P) (w := w) C o_BadArgument
  have c_last_of := ok_last_of (P := P) (w := w) C o_BadArgument
  have c_is_log := ok_is_log (P := P) (w := w) C
  refine fnG_of F sc_law (fun vs H Q E h => ?_) (fun cdv A outer s H vs Q E gd hr h => ⟨_, PSs.nox
    (pss_cons (ps_for PassesOwn.never rfl (pi_range1 rfl (C.free 34) (pa_cons (pe_bi (cr_max2 rfl) (C.free 40) (by decide +kernel) (pa_cons pe_int (pa_cons (pe_bi (cr_min2 rfl) (C.free 32) (by decide +kernel) (pa_cons pe_int (pa_cons (pe_bi (k_len (K := K) rfl) (C.free 38) (by decide +kernel) (pa_cons (pv 0) pa_nil)) pa_nil))) pa_nil))) pa_nil)) (pg_name (i := 1) sc_law.nd rfl (Or.inl rfl))
      (pss_one (ps_if (pt_not (k_truth (K := K) rfl (pe_fG c__law_right gd hr (by decide) passL (pa_cons (pe_f c__law_dice hr (by first | decide | omega) passL (pa_cons (pv 0) (pa_cons (pv 1) pa_nil))) pa_nil)) (by intro _; rfl))) (pss_one (ps_ret pe_bl)) pss_nil)))
      (pss_one (ps_ret (pe_and (pe_cmpR (k_eq (K := K) rfl hr) (pe_fG c_common gd hr (by decide) passL (pa_cons (pe_tup pa_nil) (pa_cons (pe_tup pa_nil) pa_nil))) pe_int (nomark _)) (pe_and (pe_cmpR (k_eq (K := K) rfl hr) (pe_f c_last_of hr (by first | decide | omega) passL (pa_cons (pe_tup pa_nil) pa_nil)) (pe_tup (pa_cons pe_int (pa_cons pe_int pa_nil))) (nomark _)) (pe_and (pe_f c_is_log hr (by first | decide | omega) passL (pa_cons (pe_tup pa_nil) pa_nil)) (pe_one (pe_cmpR (k_eq (K := K) rfl hr) (pe_fG c_copied gd hr (by decide) passL (pa_cons (pe_tup pa_nil) (pa_cons (pe_tup pa_nil) pa_nil))) (pe_tup pa_nil) (nomark _))))))))), ?_⟩)
  · obtain ⟨a, ns, rfl, _⟩ := h
    rfl
  · obtain ⟨a, ns, rfl, ha, hn, ht, k⟩ := h
    repeat walk_at "rd"
    refine r_lenLI ha ?_
    repeat walk_at "rd"
    obtain ⟨n, en⟩ : ∃ n : Nat, max 1 (min 6 (ns.length : Int)) = n := ⟨(max 1 (min 6 (ns.length : Int))).toNat, by omega⟩
    rw [en]
    have n4 : n ≤ 63 := by omega
    refine n_1 (by omega) ?_
    rw [Int.toNat_natCast]
    refine f_rng (fun i σ H' => ∃ x1 : Option V, σ = [some (.ref a), x1] ∧ SqL K H' a (ns.map V.int) ∧ LamX.Tabs [(Pa, Q0)] H') ⟨_, rfl, ha, ht⟩ ?_ ?_
    · rintro i σ H1 hi ⟨x1, rfl, h1, t1⟩
      rw [Int.zero_add]
      repeat walk_at "rd"
      refine ⟨a, ns, _, rfl, h1, by omega, by omega, by omega, fun d H2 e2 f2 d2 => ?_⟩
      refine ⟨d, rfl, d2, t1.ext e2, fun H3 e3 t3 => ?_⟩
      repeat walk_at "rd"
      exact ⟨_, rfl, sqL_fresh_en f2 e2 e3 h1, t3⟩
    · rintro σ H1 ⟨x1, rfl, h1, t1⟩
      repeat walk_at "rd"
      refine ⟨(show 0 ≤ sizeLine by decide), fun q1 hq1 => ?_⟩
      repeat walk_at "rd"
      refine ⟨(show 0 ≤ sizeLine by decide), fun q2 hq2 => ?_⟩
      refine ⟨.ref q1, .ref q2, [], [], rfl, no_at (sqT_up hq2 sqT_new), no_at sqT_new, no_row, no_row, fun H2 e2 => ?_⟩
      repeat walk_at "rd"
      refine ⟨(show 0 ≤ sizeLine by decide), fun q3 hq3 => ?_⟩
      refine ⟨.ref q3, rfl, .inr ⟨[], no_at sqT_new, fun p H3 e3 h3 => ?_⟩⟩
      repeat walk_at "rd"
      refine ⟨(show 2 ≤ sizeLine by decide), fun q4 hq4 => ?_⟩
      refine r_eqTT (ns := [0, 0]) (ms := [0, 0]) (sqT_up hq4 h3) sqT_new ?_
      refine ⟨_, rfl, ?_⟩
      rw [decide_eq_true rfl]
      repeat walk_at "rd"
      refine ⟨(show 0 ≤ sizeLine by decide), fun q5 hq5 => ?_⟩
      refine ⟨.ref q5, .tuple [], rfl, .tup sqT_new .nil, by decide +kernel, fun H4 e4 => ?_⟩
      refine ⟨_, rfl, ?_⟩
      rw [show logD (.tuple []) = true from rfl]
      repeat walk_at "rd"
      refine ⟨(show 0 ≤ sizeLine by decide), fun q6 hq6 => ?_⟩
      repeat walk_at "rd"
      refine ⟨(show 0 ≤ sizeLine by decide), fun q7 hq7 => ?_⟩
      refine ⟨.ref q6, .ref q7, [], [], rfl, no_at (sqT_up hq7 sqT_new), no_at sqT_new, no_row, no_row, fun p5 H5 e5 h5 => ?_⟩
      repeat walk_at "rd"
      refine ⟨(show 0 ≤ sizeLine by decide), fun q8 hq8 => ?_⟩
      refine r_eqE (d := .tuple []) (e := .tuple []) (Dp.ex (Ex.new hq8) h5) (.tup sqT_new .nil) (by decide +kernel) (by decide +kernel) ?_
      rw [eqv_refl (.tuple []) (by decide +kernel)]
      exact k _
end
section
variable {w : World} {h : Heap} {K : PySem.W.Frag} {mg : Str → Option Value} {base : Heap}
abbrev PP : Program := PySem.Challenge.pw_promisedpost_k42_logs
abbrev iBad : IniD := ⟨"BadArgument", "name", defArgs (inn 2 0), defBody (inn 2 0), defScope (inn 2 0)⟩
theorem hex (K : PySem.W.Frag) (d : IniD) (e : ex K = true) (m : d ∈ ini) : iniB PP K d = true := by
  unfold ex at e
  exact List.all_eq_true.mp e d m
theorem own_bad (ci : SaysI fa fn [] tf ini ex w h K) (C : Cx0 K mg base) : OBad PP w K mg base :=
  own_of (d := iBad) (ci.iniF hex 0) C.kin C.glob ⟨rfl, rfl, rfl, by decide +kernel, rfl, rfl, rfl, rfl, by decide⟩ rfl rfl rfl (by decide) (fun _ => rfl) (fun _ => rfl) (fun _ => rfl) (fun _ _ _ _ _ _ _ us hl => match us, hl with | [_, _], _ => rfl)
theorem law_ok (ci : SaysI fa fn [] tf ini ex w h K) {f0 : Addr} {fd0 : FuncData} (F : FunD K "law" "law" (defArgs s_law) (defBody s_law) (defScope s_law) [] [] f0 fd0) (C : Cx0 K mg base) (TB : LamX.TabB base mg (He.cT K ("_law_right", none)).1 (He.cT K ("_law_right", none)).2) :
    FnG PP w K mg base 19 f0 fd0 ["script"] (sp_law K (He.cT K ("_law_right", none)).2) :=
  ok_law F C (own_bad ci C) TB
end
end K42

end

section
open PySem PySem.Spec PyProof.Rows PB
theorem K42.law_at {w : World} {h : Heap} {mg : Str → Option Value} {fa : Addr} (Y : K42.hk.says w h) (G : h.Ns mainGlobals mg) (hmg : mg ("law" : Str) = some (.ref fa)) : ∃ K : PySem.W.Frag, K.In h ∧ LawG PySem.Challenge.rw_promisedpost_k42_logs w K 19 63 "script" mg fa h := by
  obtain ⟨K, KX, ci⟩ := Y
  have c : He.SaysD K42.fa K42.fn K := ci.x.t.d
  obtain ⟨fd, F⟩ := c.def_ 26 (d := K42.dd "law" 38) rfl
  have e := hmg.symm.trans (He.glo_ok KX G (c.fact 26 (f := .glo "law") rfl))
  cases e
  have b := L2.FunD.bindsA (ps := ["script"]) F fun _ _ _ _ _ _ us hl => match us, hl with | [_], _ => rfl
  have mem : ∀ p ∈ [He.cT K (("_law_right", none) : He.Defn)], p = He.cT K (("_law_right", none) : He.Defn) := fun p hp => List.mem_singleton.mp hp
  have mm : (("_law_right", none) : He.Defn) ∈ K42.tf := List.mem_cons_self
  refine ⟨K, KX, fd, [He.cT K (("_law_right", none) : He.Defn)], K42.sp_law K (He.cT K (("_law_right", none) : He.Defn)).2, (fun p hp => by rw [mem p hp]; exact ci.x.empty _ mm), (fun p hp => by rw [mem p hp]; exact ci.x.out _ mm), (fun p hp => by rw [mem p hp]; exact PySem.W.codeHd_of_K KX (ci.x.hd _ mm)), fun s u => b s [u] rfl, fun H a ns hl _ ht hS => ⟨a, ns, rfl, hS, hl, (fun p hp => ?_), fun _ => rfl⟩,
    fun base h1 h2 h3 => ?_⟩
  · rw [List.mem_singleton.mp hp]
    exact LamX.TabS.nil (ht _ List.mem_cons_self)
  · exact K42.law_ok ci F ⟨c, h1, h2⟩ (h3 _ List.mem_cons_self)
end
open PySem PySem.W PySem.Calls PyProof.Rows
theorem PySem.Challenge.cw_promisedpost_k42_logs_holds : PySem.Challenge.rw_promisedpost_k42_logs.Holds := by
  w_on; o_law
  refine HandSHeadRun.head_any (r := OpenLaw.row PySem.Challenge.rw_promisedpost_k42_logs) (q := view (OpenLaw.row PySem.Challenge.rw_promisedpost_k42_logs).prog [38]) (H := K42.hk) (ob := K42.ob) (M := 4000) (loose := K42.names) (d := HandSHeadRun.topDef (OpenLaw.row PySem.Challenge.rw_promisedpost_k42_logs).prog 38) (kwd := []) K42.ob_eq
    (by kernel_rfl) (fun s => by kernel_rfl) K42.run (by kernel_rfl) (by kernel_rfl) (by kernel_rfl) (by rfl) (by first | assumption | decide +kernel) (by decide +kernel) ⟨rfl, rfl, rfl, rfl, rfl, by decide +kernel⟩ ?hw ?hc
  case hw => w_witness2
  case hc =>
    refine PB.walk_G (l := PySem.Challenge.rw_promisedpost_k42_logs) (n := 63) (k := 19) (x := "script") rfl (by decide) (by kernel_rfl) ⟨rfl, by decide, by decide⟩ ?F
    intro w mg fa h Y G hmg0
    refine K42.law_at Y G ?_
    have e : (HandSHeadRun.topDef (OpenLaw.row PySem.Challenge.rw_promisedpost_k42_logs).prog 38).name = ("law" : PySem.Str) := by kernel_rfl
    rw [← e]
    exact hmg0
