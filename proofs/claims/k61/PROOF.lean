import PyProof.Rows.All
import Wide.All
import OpenK.AllK
import Wide.FinOn
import KE.KStateDown
import HandS.ForMost
import HandS.ForExc
import HandS.Words
import HandS.WordsExc
import HandS.Defaults
import HandS.Zip
import HandS.TupLe
import HandS.Deep
import HandS.Conv
import HandS.SortInts
import HandS.IsInst
import HandS.Flow
import HandS.Style
import HandS.Head0
import HandS.Head1
import HandS.Head2
import HandS.HeadHook4
import HandS.HeadWalk
import KE.DataCmp
import KE.GoesNew
import KE.KTupSum
import HandS.TupAny
import HandS.TupMul
import PyProof.TupleOfSeq
import KE.GoesMore
import KE.GoesEnum
import HandS.Walk
import KE.SortData
import HandS.EndTab
import HandS.Lambda
import PyProof.ReprRoads
import HandS.ExcInit
import HandS.ExcField
import KE.KExcSuper
import KE.KSuper
import HandS.TryOnly
import HandS.ExcIs
import KE.GoesZip
import KE.KDictZip
import KE.DataMinMax
import Lean
import PySem.Challenge.RW_promisedpost_k61_whole_shares_dealt
set_option Elab.async false
set_option linter.all false
set_option maxRecDepth 100000
set_option maxHeartbeats 0
/-! PB: readings in small steps (r_..), rules for any kind of operand, calls bundled. -/
namespace PB
open PySem PySem.Spec L2
open PyProof.Rows hiding St

/-! ### heaps -/
/-- all that stood stands -/
abbrev Ex (H H' : Hp) : Prop := ∀ a o, H a = some o → H' a = some o
theorem Ex.refl (H : Hp) : Ex H H := fun _ _ h => h
theorem Ex.trans {A B C : Hp} (a : Ex A B) (b : Ex B C) : Ex A C := fun x o h => b x o (a x o h)
theorem Ex.new {H : Hp} {p : Addr} {o : HO} (h : H p = none) : Ex H (upd H p o) := fun a u e => (upd_ne (ne_of_none e h)).trans e
theorem Ex.add {H H' : Hp} {p : Addr} {o : HO} (e : Ex H H') (h : H' p = none) : Ex H (upd H' p o) := e.trans (Ex.new h)
theorem Ex.free {H H' : Hp} (e : Ex H H') {p : Addr} (h : H' p = none) : H p = none := by
  cases q : H p with
  | none => rfl
  | some o =>
    have z := e p o q
    rw [h] at z
    cases z
/-- all that stood stands, but what stands at d -/
def ExB (d : Addr) (H H' : Hp) : Prop := ∀ a o, a ≠ d → H a = some o → H' a = some o
theorem ExB.refl (d : Addr) (H : Hp) : ExB d H H := fun _ _ _ h => h
theorem ExB.of {d : Addr} {H H' : Hp} (e : Ex H H') : ExB d H H' := fun a o _ h => e a o h
theorem ExB.trans {d : Addr} {A B C : Hp} (a : ExB d A B) (b : ExB d B C) : ExB d A C := fun x o n h => b x o n (a x o n h)
theorem ExB.put {d : Addr} {H : Hp} {o : HO} : ExB d H (upd H d o) := fun a u n e => (upd_ne n).trans e
theorem Ex.sqL {K : PySem.W.Frag} {H H' : Hp} {a : Addr} {xs : List V} (e : Ex H H') (h : SqL K H a xs) : SqL K H' a xs := Same.seq e h
theorem Ex.sqT {K : PySem.W.Frag} {H H' : Hp} {a : Addr} {xs : List V} (e : Ex H H') (h : SqT K H a xs) : SqT K H' a xs := by
  rcases h with (h | ⟨o, h⟩) | h
  · exact .inl (.inl (e _ _ h))
  · exact .inl (.inr ⟨o, e _ _ h⟩)
  · exact .inr h

/-! ### readings, step by step -/
section
variable {σ : St} {H : Hp} {Q : VK} {D : Ends} {ta tb te tc : TE} {tt tu : TT} {t u : TS} {x y v : V} {K : PySem.W.Frag}
theorem r_var {i : Nat} (h : σ[i]? = some (some v)) (q : Q v H) : tVar i σ H Q := ⟨v, h, q⟩
theorem r_c (q : Q v H) : tC v σ H Q := q
theorem r_op {r : R2} (h : ta σ H fun x H1 => tb σ H1 fun y H2 => r x y H2 Q) : tOp r ta tb σ H Q := h
theorem r_un {r : V → Hp → VK → Prop} (h : ta σ H fun x H1 => r x H1 Q) : tUn r ta σ H Q := h
theorem r_U {g : Int → V} {i : Int} (q : Q (g i) H) : rU g (.int i) H Q := ⟨i, rfl, q⟩
theorem r_I0 {g : Int → Int → V} {i j : Int} (q : Q (g i j) H) : rI0 g (.int i) (.int j) H Q := ⟨i, j, rfl, rfl, q⟩
theorem r_I {C : Int → Int → Prop} {g : Int → Int → V} {i j : Int} (c : C i j) (q : Q (g i j) H) : rI C g (.int i) (.int j) H Q := ⟨i, j, rfl, rfl, c, q⟩
theorem r_test {Q : Bool → Hp → Prop} (h : te σ H fun x H1 => ∃ k, x = .bl k ∧ Q k H1) : tTest te σ H Q := h
theorem r_B {Q : Bool → Hp → Prop} (h : te σ H fun x H1 => ∃ k, x = .bl k ∧ Q k H1) : tB te σ H Q := h
theorem r_bl {P : Bool → Prop} {b : Bool} (h : P b) : ∃ k, V.bl b = V.bl k ∧ P k := ⟨b, rfl, h⟩
theorem r_not {Q : Bool → Hp → Prop} (h : tt σ H fun c H1 => Q (!c) H1) : tNot tt σ H Q := h
theorem r_and {Q : Bool → Hp → Prop} (h : tt σ H fun c H1 => if c = true then tu σ H1 Q else Q false H1) : tAnd tt tu σ H Q := h
theorem r_or {Q : Bool → Hp → Prop} (h : tt σ H fun c H1 => if c = true then Q true H1 else tu σ H1 Q) : tOr tt tu σ H Q := h
theorem r_andV (h : ta σ H fun x H1 => ∃ c, x = .bl c ∧ if c = true then tb σ H1 Q else Q (.bl false) H1) : tAndV ta tb σ H Q := h
theorem r_orV (h : ta σ H fun x H1 => ∃ c, x = .bl c ∧ if c = true then Q (.bl true) H1 else tb σ H1 Q) : tOrV ta tb σ H Q := h
theorem r_notV (h : ta σ H fun x H1 => ∃ c, x = .bl c ∧ Q (.bl (!c)) H1) : tNotV ta σ H Q := h
theorem r_if (h : tt σ H fun c H1 => if c = true then ta σ H1 Q else tb σ H1 Q) : tIf tt ta tb σ H Q := h
theorem r_chain {r r' : R2} (h : ta σ H fun x H1 => tb σ H1 fun y H2 => r x y H2 fun z H3 => ∃ k, z = .bl k ∧ (if k = true then tc σ H3 fun w' H4 => r' y w' H4 Q else Q (.bl false) H3)) : tChain r r' ta tb tc σ H Q := h
theorem r_T {A B : Prop} {b : Bool} (e : b = true) (h : A) : if b = true then A else B := by
  rw [if_pos e]; exact h
theorem r_F {A B : Prop} {b : Bool} (e : b = false) (h : B) : if b = true then A else B := by
  rw [if_neg (by rw [e]; decide)]; exact h
theorem r_D {A B p : Prop} [Decidable p] (h1 : p → A) (h2 : ¬ p → B) : if decide p = true then A else B := by
  by_cases c : p
  · exact r_T (decide_eq_true c) (h1 c)
  · exact r_F (decide_eq_false c) (h2 c)
theorem r_ND {A B p : Prop} [Decidable p] (h1 : ¬ p → A) (h2 : p → B) : if (!decide p) = true then A else B := by
  by_cases c : p
  · exact r_F (by rw [decide_eq_true c]; rfl) (h2 c)
  · exact r_T (by rw [decide_eq_false c]; rfl) (h1 c)
theorem r_C {A B : Prop} {b : Bool} (h1 : b = true → A) (h2 : b = false → B) : if b = true then A else B := by
  cases b with
  | true => exact r_T rfl (h1 rfl)
  | false => exact r_F rfl (h2 rfl)
theorem r_truB {P : Bool → Prop} {b : Bool} (h : P b) : ∃ k, TruV K (.bl b) H k ∧ P k := ⟨b, rfl, h⟩
theorem r_eq (s : scal x y = true) (q : Q (.bl (decide (x = y))) H) : rEq x y H Q := ⟨s, q⟩
theorem r_ne (s : scal x y = true) (q : Q (.bl (!decide (x = y))) H) : rNe x y H Q := ⟨s, q⟩
/-! statements -/
theorem r_seq (h : t { D with nx := u D } σ H) : tSeq t u D σ H := h
theorem r_next (h : D.nx σ H) : tNext D σ H := h
theorem r_brk (h : D.bk σ H) : tBreak D σ H := h
theorem r_cont (h : D.ct σ H) : tCont D σ H := h
theorem r_ret (h : te σ H D.rt) : tRet te D σ H := h
theorem r_drop (h : te σ H fun _ H1 => D.nx σ H1) : tDrop te D σ H := h
theorem r_set {i : Nat} (h : te σ H fun v H1 => D.nx (σ.set i (some v)) H1) : tAsg te (gName i) D σ H := h
theorem r_asg {g : TG} (h : te σ H fun x H1 => g x σ H1 D.nx) : tAsg te g D σ H := h
theorem r_gname {i : Nat} {Q : St → Hp → Prop} (h : Q (σ.set i (some v)) H) : gName i v σ H Q := h
theorem r_gtup {n : Nat} {tg : TGs} {a : Addr} {xs : List V} {Q : St → Hp → Prop} (ha : SqT K H a xs) (hn : xs.length = n) (h : tg xs σ H Q) : gTup K n tg (.ref a) σ H Q := ⟨a, xs, rfl, ha, hn, h⟩
theorem r_gcons {g : TG} {tg : TGs} {vs : List V} {Q : St → Hp → Prop} (h : g v σ H fun σ' H' => tg vs σ' H' Q) : gCons g tg (v :: vs) σ H Q := ⟨v, vs, rfl, h⟩
theorem r_gnil {Q : St → Hp → Prop} (h : Q σ H) : gNil [] σ H Q := ⟨rfl, h⟩
theorem r_ifS (h : tt σ H fun b H1 => if b = true then t D σ H1 else u D σ H1) : tIfS tt t u D σ H := h
theorem r_aug {i : Nat} {ti : TIp} (h : σ[i]? = some (some x)) (q : te σ H fun y H1 => ti x y H1 fun z H2 => D.nx (σ.set i (some z)) H2) : tAug i te ti D σ H := ⟨x, h, q⟩
theorem r_ipI {f : Int → Int → Int} {i j : Int} (q : Q (.int (f i j)) H) : ipI f (.int i) (.int j) H Q := ⟨i, j, rfl, rfl, q⟩
/-! arguments, displays, calls -/
theorem r_nil {Q : List V → Hp → Prop} (q : Q [] H) : tNil σ H Q := q
theorem r_cons {tr : TA} {Q : List V → Hp → Prop} (h : ta σ H fun x H1 => tr σ H1 fun xs H2 => Q (x :: xs) H2) : tCons ta tr σ H Q := h
theorem r_tup {tr : TA} (h : tr σ H fun xs H1 => xs.length ≤ sizeLine ∧ ∀ p, H1 p = none → Q (.ref p) (upd H1 p (.tup xs))) : tTup tr σ H Q := h
theorem r_lst {tr : TA} (h : tr σ H fun xs H1 => xs.length ≤ sizeLine ∧ ∀ p, H1 p = none → Q (.ref p) (upd H1 p (.lst xs))) : tLst tr σ H Q := h
theorem r_call {sp : Sp} {E : XK} {tr : TA} (h : tr σ H fun vs H1 => sp vs H1 Q E) : tCall sp [] E tr σ H Q := by
  have e : (fun (vs : List V) (H1 : Hp) => sp (vs ++ []) H1 Q E) = fun vs H1 => sp vs H1 Q E := by
    funext vs H1
    rw [List.append_nil]
  show tr σ H (fun (vs : List V) (H1 : Hp) => sp (vs ++ []) H1 Q E)
  rw [e]
  exact h
theorem r_callB {r : List V → Hp → VK → Prop} {tr : TA} (h : tr σ H fun vs H1 => r vs H1 Q) : tCB r tr σ H Q := h
theorem r_fld {f : Str} (h : ta σ H fun x H1 => ∃ a C dx fs v, x = .ref a ∧ H1 a = some (.ins C dx fs) ∧ Cls K C ∧ NoAttr K C f ∧ fs.lookup f = some v ∧ Q v H1) : tFld K ta f σ H Q := h
end

/-! ### kinds of values -/
/-- the types that may be asked of -/
def tyNames : List String := ["NoneType", "bool", "int", "str", "list", "tuple", "dict"]
def IsTy (K : PySem.W.Frag) (H : Hp) (v : V) (T : String) : Prop := TyX K H v (.type T) ∧ T ∈ tyNames
section
variable {K : PySem.W.Frag} {H H' : Hp} {Q : VK} {v : V} {T : String} {a : Addr}
theorem IsTy.non : IsTy K H .non "NoneType" := ⟨.base .non, by decide⟩
theorem IsTy.bl (b : Bool) : IsTy K H (.bl b) "bool" := ⟨.base (.bl b), by decide⟩
theorem IsTy.int (i : Int) : IsTy K H (.int i) "int" := ⟨.base (.int i), by decide⟩
theorem IsTy.str (x : Str) : IsTy K H (.str x) "str" := ⟨.base (.str x), by decide⟩
theorem IsTy.lst {xs : List V} (h : H a = some (.lst xs)) : IsTy K H (.ref a) "list" := ⟨.base (.lst h), by decide⟩
theorem IsTy.tup {xs : List V} (h : H a = some (.tup xs)) : IsTy K H (.ref a) "tuple" := ⟨.base (.tup h), by decide⟩
theorem IsTy.dK {kvs : List (Key × V)} (h : H a = some (.dK kvs)) : IsTy K H (.ref a) "dict" := ⟨.base (.dK h), by decide⟩
theorem IsTy.sqT {xs : List V} (h : SqT K H a xs) : IsTy K H (.ref a) "tuple" := by
  rcases h with (h | ⟨o, h⟩) | ⟨o, its, n, h, c, _⟩
  · exact .tup h
  · exact ⟨.fTuple h, by decide⟩
  · exact ⟨.kTuple h c, by decide⟩
def isIntV : V → Bool
  | .int _ => true
  | _ => false
def isBlV : V → Bool
  | .bl _ => true
  | _ => false
def isStrV : V → Bool
  | .str _ => true
  | _ => false
theorem r_isi {c : String} {b : Bool} (ty : IsTy K H v T) (e : kitB T c = some b) (q : Q (.bl b) H) : rIsi K [v, .ty c] H Q :=
  ⟨v, .ty c, .type T, .type c, b, rfl, .ty c, ty.1, kit_ty e, q⟩
theorem IsTy.cases (h : IsTy K H v T) : (v = .non ∧ T = "NoneType") ∨ (∃ b, v = .bl b ∧ T = "bool") ∨ (∃ i, v = .int i ∧ T = "int") ∨ (∃ x, v = .str x ∧ T = "str") ∨ (∃ a, v = .ref a ∧ T ∈ ["list", "tuple", "dict"]) := by
  obtain ⟨h, m⟩ := h
  generalize ht : Value.type T = t at h
  cases h with
  | base b =>
    cases b with
    | non => cases ht; exact .inl ⟨rfl, rfl⟩
    | bl b => cases ht; exact .inr (.inl ⟨b, rfl, rfl⟩)
    | int i => cases ht; exact .inr (.inr (.inl ⟨i, rfl, rfl⟩))
    | str x => cases ht; exact .inr (.inr (.inr (.inl ⟨x, rfl, rfl⟩)))
    | flt x => cases ht; exact absurd m (by decide)
    | lst e => cases ht; exact .inr (.inr (.inr (.inr ⟨_, rfl, by decide⟩)))
    | frz e => cases ht; exact .inr (.inr (.inr (.inr ⟨_, rfl, by decide⟩)))
    | tup e => cases ht; exact .inr (.inr (.inr (.inr ⟨_, rfl, by decide⟩)))
    | dK e => cases ht; exact .inr (.inr (.inr (.inr ⟨_, rfl, by decide⟩)))
    | dT e => cases ht; exact .inr (.inr (.inr (.inr ⟨_, rfl, by decide⟩)))
    | ins => cases ht
  | byt b => cases ht; exact absurd m (by decide)
  | set e => cases ht; exact absurd m (by decide)
  | kList e c => cases ht; exact .inr (.inr (.inr (.inr ⟨_, rfl, by decide⟩)))
  | kTuple e c => cases ht; exact .inr (.inr (.inr (.inr ⟨_, rfl, by decide⟩)))
  | kDict e c => cases ht; exact .inr (.inr (.inr (.inr ⟨_, rfl, by decide⟩)))
  | fTuple e => cases ht; exact .inr (.inr (.inr (.inr ⟨_, rfl, by decide⟩)))
  | fDict e => cases ht; exact .inr (.inr (.inr (.inr ⟨_, rfl, by decide⟩)))
end

/-! ### a def, by its name -/
/-- the def of this name keeps this promise -/
def Cal (P : Program) (w : World) (K : PySem.W.Frag) (mg : Str → Option Value) (base : Heap) (k : Nat) (x : Str) (ps : List Str) (sp : Sp) : Prop :=
  ∃ f fd, mg x = some (.ref f) ∧ PySem.W.keepIn K (.ref f) = true ∧ FnOk P w K mg base (L2.CX P w) k f fd ps sp ∧ Binds K fd ps []
theorem pe_f {X : Cx} {k j : Nat} {x : Str} {ps : List Str} {sp : Sp} {E : XK} {p pos : Pos} {e : Expr} {es : List Expr} {t : TA} (c : Cal X.prog X.w X.K X.mg X.base k x ps sp) (hr : Room j X.A) (hk : k ≤ j) (hx : Passes (L2.CX X.prog X.w) X E) (ha : PA X (e :: es) t)
    (hg : Gl X x := by rfl) (hdb : (x == ("__debug__" : Str)) = false := by decide) (he : starEach (e :: es) X.env = (false, eval e X.env) :: starEach es X.env := by rfl) (hpl : (backTo pos (starEach es X.env)).any (·.1) = false := by rfl) :
    PE X (.Call (.Name x p) (e :: es) [] pos) (tCall sp [] E t) := by
  obtain ⟨f, fd, h1, h2, F, b⟩ := c
  exact pe_call F (hr.mono hk) hg h1 h2 b .nil hx ha hdb he hpl
/-- a built-in type by its name, as a value -/
theorem pe_ty {X : Cx} (n : String) {x : Str} {pos : Pos} (hm : X.mg x = none) (hv : bootBuiltins x = some (.type n) := by decide +kernel) (hg : Gl X x := by rfl) (hn : x ≠ "__name__" := by decide) (hd : (x == ("__debug__" : Str)) = false := by decide) : PE X (.Name x pos) (tC (.ty n)) :=
  pe_bltn hg hm hv rfl hn hd
/-- a module's int -/
theorem pe_gi {X : Cx} {x : Str} {i : Int} {pos : Pos} (hm : ∃ t, X.mg x = some (.int i t)) (hg : Gl X x := by rfl) (hd : (x == ("__debug__" : Str)) = false := by decide) : PE X (.Name x pos) (tC (.int i)) := by
  obtain ⟨t, h⟩ := hm
  exact pe_glob hg h ⟨t, rfl⟩ hd
/-- a built-in function called -/
theorem pe_bi {X : Cx} {x : Str} {id : String} {r : List V → Hp → VK → Prop} {p pos : Pos} {e : Expr} {es : List Expr} {t : TA} (hc : CallR X (.builtin id) r) (hm : X.mg x = none) (hv : bootBuiltins x = some (.builtin id)) (ha : PA X (e :: es) t) (hg : Gl X x := by rfl)
    (hn : x ≠ "__name__" := by decide) (hdb : (x == ("__debug__" : Str)) = false := by decide) (he : starEach (e :: es) X.env = (false, eval e X.env) :: starEach es X.env := by rfl) (hpl : (backTo pos (starEach es X.env)).any (·.1) = false := by rfl) :
    PE X (.Call (.Name x p) (e :: es) [] pos) (tCB r t) := pe_callB hc hg hm hv ha hn hdb he hpl
/-- a built-in class called -/
theorem pe_bt {X : Cx} {x : Str} {T : String} {r : List V → Hp → VK → Prop} {p pos : Pos} {e : Expr} {es : List Expr} {t : TA} (hc : CallR X (.type T) r) (hm : X.mg x = none) (hv : bootBuiltins x = some (.type T)) (ha : PA X (e :: es) t) (hg : Gl X x := by rfl)
    (hn : x ≠ "__name__" := by decide) (hdb : (x == ("__debug__" : Str)) = false := by decide) (he : starEach (e :: es) X.env = (false, eval e X.env) :: starEach es X.env := by rfl) (hpl : (backTo pos (starEach es X.env)).any (·.1) = false := by rfl) :
    PE X (.Call (.Name x p) (e :: es) [] pos) (tCB r t) := pe_callTy hc hg hm hv ha hn hdb he hpl
/-- what the top has left -/
structure Ct (fa : List He.Fa) (fn : List He.DefD) (K : PySem.W.Frag) (mg : Str → Option Value) (base : Heap) : Prop where
  says : He.SaysD fa fn K
  kin : K.In base
  glob : base.Ns mainGlobals mg
section
variable {P : Program} {w : World} {fa : List He.Fa} {fn : List He.DefD} {K : PySem.W.Frag} {mg : Str → Option Value} {base : Heap}
theorem Ct.free (C : Ct fa fn K mg base) (i : Nat) {x : Str} (h : fa[i]? = some (.free x) := by rfl) : mg x = none := He.free_ok C.kin C.glob (C.says.fact i h)
theorem Ct.int (C : Ct fa fn K mg base) (i : Nat) {x : Str} {n : Int} (h : fa[i]? = some (.int x n) := by rfl) : ∃ t, mg x = some (.int n t) := He.int_ok C.kin C.glob (C.says.fact i h)
theorem Ct.cal (C : Ct fa fn K mg base) (i j : Nat) {x : Str} {a : Arguments} {b : List Stmt} {sc : Scope} (hd : fn[i]? = some ⟨(x, none), x, x, a, b, sc, [], []⟩) (hj : fa[j]? = some (.glo x)) {N ps : List Str} {k : Nat} {sp : Sp} (S : FnScope N ps sc)
    (hb : ∀ (kV doc pm : Value) (an : Option Addr) (cdv ct : Value) (us : List Value), us.length = ps.length → bindArgs (PySem.W.fnOf x x a b sc .none kV doc pm an cdv ct) ⟨us, []⟩ = pure (ps.zip us))
    (len : ∀ vs H Q E, sp vs H Q E → vs.length = ps.length)
    (hbody : ∀ (f : Addr) (cdv : Value) (A : Around) (outer : List Env) (s : Shared) (H : Hp) (vs : List V) (Q : VK) (E : XK), Room k (A.deeper (envOfC x sc s.heap.objs.size f cdv)) → sp vs H Q E →
      ∃ t, PSs (cxOf (L2.CX P w) P w K mg base N x sc f cdv A outer s H E) b t ∧ t { nx := fun _ H' => Q .non H', rt := Q } (start N vs) H) : Cal P w K mg base (k + 1) x ps sp := by
  obtain ⟨fd, F⟩ := C.says.def_ i hd
  exact ⟨_, fd, He.glo_ok C.kin C.glob (C.says.fact j hj), F.kp, FunD.ok F S len fun cdv A outer s H vs Q E hr h => hbody _ cdv A outer s H vs Q E hr h, FunD.bindsN F hb⟩
end
end PB

/-! PR: more rules by values: any kind of operand, tuples where the layer has lists. -/
namespace PB
open PySem PySem.Spec L2
open PyProof.Rows hiding St
section
variable {X : Cx}
/-! ### comparisons -/
def rCmpD (K : PySem.W.Frag) (f : PyData → PyData → Bool) : R2 := fun x y H Q => ∃ d e, Dp K H x d ∧ Dp K H y e ∧ PySem.W.alike d e = true ∧ d ≠ .none ∧ min d.depth e.depth ≤ 60 ∧ Q (.bl (f d e)) H
theorem cmpD {op : CmpOp} {f : PyData → PyData → Bool} (hu : X.A.units + 64 < cLine)
    (rule : ∀ {s : Shared} {a b : Value} {da db : PyData} {as bs : List Addr} {Q : Value → Shared → Prop}, Reads s.heap a da as → Reads s.heap b db bs → PySem.W.alike da db = true → da ≠ .none → X.A.units + min da.depth db.depth < cLine → Q (.bool (f da db)) s → wpAny (model X.prog X.w) X.A (compareOp op a b) Q X.xe s) :
    OpR X (compareOp op) (rCmpD X.K f) := by
  intro pins s σ H x y v u Q I rx ry h
  obtain ⟨d, e, hd, he, al, nn, dp, q⟩ := h
  obtain ⟨as, r1⟩ := Dp.reads I d x v hd rx
  obtain ⟨bs, r2⟩ := Dp.reads I e y u he ry
  exact rule r1 r2 al nn (by omega) ⟨.bl _, H, I, rfl, q⟩
def rCmpA (K : PySem.W.Frag) (g : Int → Int → Bool) (f : PyData → PyData → Bool) : R2 := fun x y H Q => rI0 (fun i j => .bl (g i j)) x y H Q ∨ rCmpD K f x y H Q
theorem op_ltA' (hu : X.A.units + 64 < cLine) : OpR X (compareOp .Lt) (rCmpA X.K (fun i j => decide (i < j)) fun d e => PySem.W.dataLt d e) := OpR.or op_lt (cmpD hu PySem.W.lt_data)
theorem op_gtA' (hu : X.A.units + 64 < cLine) : OpR X (compareOp .Gt) (rCmpA X.K (fun i j => decide (j < i)) fun d e => PySem.W.dataLt e d) := OpR.or op_gt (cmpD hu PySem.W.gt_data)
theorem op_leA' (hu : X.A.units + 64 < cLine) : OpR X (compareOp .LtE) (rCmpA X.K (fun i j => decide (i ≤ j)) fun d e => !PySem.W.dataLt e d) := OpR.or op_le (cmpD hu PySem.W.le_data)
theorem op_geA' (hu : X.A.units + 64 < cLine) : OpR X (compareOp .GtE) (rCmpA X.K (fun i j => decide (j ≤ i)) fun d e => !PySem.W.dataLt d e) := OpR.or op_ge (cmpD hu PySem.W.ge_data)
/-- room for 64 units -/
theorem un64 {k : Nat} {A : Around} (hr : Room k A) : A.units + 64 < cLine := by
  have := hr.un
  omega
theorem op_ltA {k : Nat} (hr : Room k X.A) : OpR X (compareOp .Lt) (rCmpA X.K (fun i j => decide (i < j)) fun d e => PySem.W.dataLt d e) := op_ltA' (un64 hr)
theorem op_gtA {k : Nat} (hr : Room k X.A) : OpR X (compareOp .Gt) (rCmpA X.K (fun i j => decide (j < i)) fun d e => PySem.W.dataLt e d) := op_gtA' (un64 hr)
theorem op_leA {k : Nat} (hr : Room k X.A) : OpR X (compareOp .LtE) (rCmpA X.K (fun i j => decide (i ≤ j)) fun d e => !PySem.W.dataLt e d) := op_leA' (un64 hr)
theorem op_geA {k : Nat} (hr : Room k X.A) : OpR X (compareOp .GtE) (rCmpA X.K (fun i j => decide (j ≤ i)) fun d e => !PySem.W.dataLt d e) := op_geA' (un64 hr)
def rEqA (K : PySem.W.Frag) : R2 := fun x y H Q => rEq x y H Q ∨ rEqD K x y H Q
def rNeA (K : PySem.W.Frag) : R2 := fun x y H Q => rNe x y H Q ∨ rNeD K x y H Q
theorem op_eqA {k : Nat} (hr : Room k X.A) : OpR X (compareOp .Eq) (rEqA X.K) := OpR.or op_eq (op_eqD (un64 hr))
theorem op_neA {k : Nat} (hr : Room k X.A) : OpR X (compareOp .NotEq) (rNeA X.K) := OpR.or op_ne (op_neD (un64 hr))
def rInA (K : PySem.W.Frag) : R2 := fun x y H Q => rIn K false x y H Q ∨ rInD K x y H Q
def rNinA (K : PySem.W.Frag) : R2 := fun x y H Q => rIn K true x y H Q ∨ rNotInD K x y H Q
theorem op_inA {k : Nat} (hr : Room k X.A) : OpR X (compareOp .In) (rInA X.K) := OpR.or op_in_seq (op_inD (by have := hr.un; omega))
theorem op_ninA {k : Nat} (hr : Room k X.A) : OpR X (compareOp .NotIn) (rNinA X.K) := OpR.or op_notIn_seq (op_notInD (by have := hr.un; omega))

/-! ### sums, joins -/
def rAddA (K : PySem.W.Frag) : R2 := fun x y H Q => rI0 (fun i j => .int (i + j)) x y H Q ∨ rCat x y H Q ∨ rCatA K x y H Q ∨ ∃ i j, x = .str i ∧ y = .str j ∧ i.length + j.length ≤ sizeLine ∧ Q (.str (i ++ j)) H
theorem op_addA : OpR X (binaryOp .Add) (rAddA X.K) := OpR.or op_add (OpR.or op_cat (OpR.or op_catA op_add_str))
def rMulA (K : PySem.W.Frag) : R2 := fun x y H Q => rI CMul (fun i j => .int (i * j)) x y H Q ∨ rRep x y H Q ∨ rRepT K x y H Q
theorem op_mulA : OpR X (binaryOp .Mult) (rMulA X.K) := OpR.or op_mul (OpR.or op_rep op_repT)

/-! ### built-in functions on lists and tuples -/
def rSumT (K : PySem.W.Frag) : List V → Hp → VK → Prop := fun vs H Q => ∃ (a : Addr) (ns : List Int), vs = [V.ref a] ∧ SqT K H a (ns.map V.int) ∧ Q (.int ns.sum) H
theorem cr_sumT (hc : X.calm = true) : CallR X (.builtin "sum") (rSumT X.K) := by
  intro pins s σ H vs us Q I r h
  obtain ⟨a, ns, rfl, ht, q⟩ := h
  obtain ⟨its, rv, ⟨o, e, c, n, d⟩, _⟩ := I.tuple ht
  rw [Vals.ref1 r]
  have hi := rv.ints
  obtain ⟨xs, ex⟩ := hi.allInts.items
  have hn : numsOf (intItems xs).toList = ns := by rw [← ex]; exact hi.numsOf
  rw [nums_intItems] at hn
  have hT : s.heap.IsTuple a (intItems xs) := by rw [← ex]; exact ⟨o, e, c, n, d⟩
  refine PySem.W.ktm_sumG (I.ok.hd hc) hT fun h' tk t' hk => ?_
  rw [preSum_eq, List.take_of_length_le (by simp), hn]
  exact ⟨.int ns.sum, H, I.kept hk, ⟨t', rfl⟩, q⟩
def rSumA (K : PySem.W.Frag) : List V → Hp → VK → Prop := fun vs H Q => rSum K vs H Q ∨ rSumT K vs H Q
theorem cr_sumA (hc : X.calm = true) : CallR X (.builtin "sum") (rSumA X.K) := CallR.or (cr_sum hc) (cr_sumT hc)
def rSortedTI (K : PySem.W.Frag) : List V → Hp → VK → Prop := fun vs H Q => ∃ (a : Addr) (ns : List Int), vs = [V.ref a] ∧ SqT K H a (ns.map V.int) ∧
  ∀ (ns' : List Int) (p : Addr), ns'.Perm ns → ns'.Pairwise (· ≤ ·) → H p = none → Q (.ref p) (upd H p (.lst (ns'.map V.int)))
theorem cr_sortedTI : CallR X (.builtin "sorted") (rSortedTI X.K) := by
  intro pins s σ H vs us Q I r h
  obtain ⟨a, ns, rfl, ht, q⟩ := h
  obtain ⟨its, rv, ⟨o, e, c, n, d⟩, hz⟩ := I.tuple ht
  have hlen := rv.length
  rw [Vals.ref1 r]
  have hi := rv.ints
  refine Calls.call_function_entry PyProof.Rows.kind_sorted PyProof.Rows.plain_sorted PyProof.Rows.entry_sorted (PyProof.Rows.args_sorted1 _) ?_
  unfold Builtin.«sorted»
  refine wpAny_bind (wpAny_pure ?_)
  refine wpAny_bind (wpAny_collect_seq a (.inr rfl) e c d (fun h1 k1 => ?_) (by rw [List.size_toArray, ← hlen]; exact hz))
  refine wpAny_bind (wpAny_newList ?_ (by show its.length ≤ sizeLine; rw [← hlen]; exact hz))
  have e1 : (h1.push { cls := .type "list", data := .seq its.toArray }).get? h1.objs.size = some (PyProof.Rows.seqObj "list" its.toArray 0) := Heap.get?_push_size _ rfl
  refine wpAny_bind (wpAny_holding (wpAny_call_entry PyProof.Rows.slot_list_sort ⟨_, e1, rfl⟩ PyProof.Rows.entry_list_sort
    (SrtO.list_sort_ord SrtO.swo_int e1 (by rw [← hlen]; exact hz) (fun h2 => SrtO.ints_sortable hi h2) fun out g1 g2 => ⟨_, rfl, ?_⟩) (PyProof.Rows.args_list_sort _)))
  obtain ⟨k3, k4, k5⟩ := SrtO.ints_out hi g1 g2
  obtain ⟨ep, he⟩ := PyProof.Rows.sortedHeap_at (vs := its) (out := out.toArray) e1
  have I1 : Inv X pins σ H { s with heap := h1 } := I.kept (t' := s.toks) k1
  have old : ∀ b u, h1.get? b = some u → (PyProof.Rows.sortedHeap (h1.push { cls := .type "list", data := .seq its.toArray }) h1.objs.size its out.toArray).get? b = some u := fun b u eb => by
    have lt := Heap.lt_size eb
    rw [PyProof.Rows.sortedHeap_old (Nat.ne_of_lt lt) (by rw [Heap.size_push]; exact Nat.lt_succ_of_lt lt)]
    exact Heap.get?_push_of_some _ eb
  have hl2 : ((out.map SrtO.iv).map V.int).length ≤ sizeLine := by
    rw [List.length_map, k4.length_eq]
    rw [List.length_map] at hz
    exact hz
  exact wpAny_pure ⟨_, rfl, ⟨.ref _, upd H h1.objs.size (.lst ((out.map SrtO.iv).map V.int)), I1.laid (t' := s.toks) old (Nat.le_refl _) ⟨hl2, out, ep, vals_of_ints k3, he⟩, rfl, q _ _ k4 k5 (I1.hok.fresh (Nat.le_refl _))⟩⟩
/-! ### targets of two, of three names -/
theorem pg_two {i j kk : Nat} {x y : Str} {px py pos : Pos} (hc : X.calm = true) (hN : X.N.Nodup) (hi : X.N[i]? = some x) (hj : X.N[j]? = some y) (lx : Loc X.env.scope x) (ly : Loc X.env.scope y)
    (fx : X.fn x = true ∨ X.env.scope.names.lookup x = some .local) (fy : X.fn y = true ∨ X.env.scope.names.lookup y = some .local) : PG X (.Tuple [.Name x px, .Name y py] kk pos) (gTup X.K 2 (gCons (gName i) (gCons (gName j) gNil))) :=
  pg_tup hc (pgs_cons (pg_name hN hi lx fx) (pgs_cons (pg_name hN hj ly fy) pgs_nil))
theorem pg_three {i j l kk : Nat} {x y z : Str} {px py pz pos : Pos} (hc : X.calm = true) (hN : X.N.Nodup) (hi : X.N[i]? = some x) (hj : X.N[j]? = some y) (hl : X.N[l]? = some z) (lx : Loc X.env.scope x) (ly : Loc X.env.scope y) (lz : Loc X.env.scope z)
    (fx : X.fn x = true ∨ X.env.scope.names.lookup x = some .local) (fy : X.fn y = true ∨ X.env.scope.names.lookup y = some .local) (fz : X.fn z = true ∨ X.env.scope.names.lookup z = some .local) : PG X (.Tuple [.Name x px, .Name y py, .Name z pz] kk pos) (gTup X.K 3 (gCons (gName i) (gCons (gName j) (gCons (gName l) gNil)))) :=
  pg_tup hc (pgs_cons (pg_name hN hi lx fx) (pgs_cons (pg_name hN hj ly fy) (pgs_cons (pg_name hN hl lz fz) pgs_nil)))
/-! ### built-in calls under names of their own -/
def rLenA (K : PySem.W.Frag) : List V → Hp → VK → Prop := fun xs H Q => ∃ x n, xs = [x] ∧ LenV K x H n ∧ Q (.int n) H
theorem cr_len : CallR X (.builtin "len") (rLenA X.K) := call_len
def rMax2A : List V → Hp → VK → Prop := fun xs H Q => ∃ i j, xs = [.int i, .int j] ∧ Q (.int (if j > i then j else i)) H
theorem cr_max2 (hc : X.calm = true) : CallR X (.builtin "max") rMax2A := call_max2 hc
def rMin2A : List V → Hp → VK → Prop := fun xs H Q => ∃ i j, xs = [.int i, .int j] ∧ Q (.int (if j < i then j else i)) H
theorem cr_min2 (hc : X.calm = true) : CallR X (.builtin "min") rMin2A := call_min2 hc
def rAbsA : List V → Hp → VK → Prop := fun xs H Q => ∃ i, xs = [.int i] ∧ Q (.int (if i < 0 then -i else i)) H
theorem cr_abs : CallR X (.builtin "abs") rAbsA := call_abs
def rInt1A : List V → Hp → VK → Prop := fun xs H Q => (∃ i, xs = [.int i] ∧ Q (.int i) H) ∨ ∃ k, xs = [.bl k] ∧ Q (.int (if k then 1 else 0)) H
theorem cr_int1 : CallR X (.type "int") rInt1A := call_int1
def rTupA (K : PySem.W.Frag) : List V → Hp → VK → Prop := fun xs H Q => ∃ p ys, xs = [.ref p] ∧ ((SqL K H p ys ∧ ∀ l, H l = none → Q (.ref l) (upd H l (.tup ys))) ∨ (SqT K H p ys ∧ Q (.ref p) H))
theorem cr_tuple : CallR X (.type "tuple") (rTupA X.K) := call_tuple_of
def rListA (K : PySem.W.Frag) : List V → Hp → VK → Prop := fun xs H Q => ∃ p ys, xs = [.ref p] ∧ (SqL K H p ys ∨ SqT K H p ys) ∧ ∀ l, H l = none → Q (.ref l) (upd H l (.lst ys))
theorem cr_list : CallR X (.type "list") (rListA X.K) := call_list_of
/-! ### items and cuts -/
def rIxA (K : PySem.W.Frag) : R2 := fun x y H Q => rIxL K x y H Q ∨ rIxT K x y H Q ∨ rIxS x y H Q
theorem ix_A : IxR X (rIxA X.K) := IxR.or ix_list (IxR.or ix_tup ix_str)
def rSortedA (K : PySem.W.Frag) : List V → Hp → VK → Prop := fun vs H Q => rSortedI K vs H Q ∨ rSortedTI K vs H Q
theorem cr_sortedA : CallR X (.builtin "sorted") (rSortedA X.K) := CallR.or cr_sortedI cr_sortedTI
def rSlcA (K : PySem.W.Frag) : V → Option Int → Option Int → Hp → VK → Prop := fun x lo hi H Q => rSlL K x lo hi H Q ∨ rSlA K x lo hi H Q ∨ rSlS x lo hi H Q
theorem sl_A : SlR X (rSlcA X.K) := SlR.or sl_list (SlR.or sl_tupA sl_str)
/-! ### what a for walks -/
/-- a list or a tuple -/
def iSeq (K : PySem.W.Frag) (tl : TE) : TI := fun σ H R => tl σ H fun x H1 => ∃ a xs, x = .ref a ∧ ((SqL K H1 a xs ∧ R (Itl K a) H1) ∨ (SqT K H1 a xs ∧ R (Itt K a) H1))
theorem pi_seq {tg l : Expr} {tl : TE} (hl : PE X l tl) : PI X tg l (iSeq X.K tl) := by
  refine ⟨fun pins s σ H R I h => ?_⟩
  refine thn (hl.run pins s σ H _ I h) fun v s1 ⟨x, H1, I1, r1, a, xs, e, q1⟩ => ?_
  subst e
  obtain rfl : v = Value.ref a := r1
  rcases q1 with ⟨hq, q⟩ | ⟨hq, q⟩
  · obtain ⟨its, rv, p, hz⟩ := I1.list hq
    refine wpAny_pyIter_list p.isList ?_
    refine ⟨s1.heap.objs.size, [s1.heap.objs.size], _, _, H1, rfl, I1.kept (t' := s1.toks) fun b o e => Heap.get?_push_of_some _ e, turn_list a _, ⟨_, Heap.get?_push_size _ rfl, rfl, rfl⟩, fun b hb => ?_, q⟩
    obtain rfl := List.mem_singleton.mp hb
    exact I1.fpOk (Nat.le_refl _) (I1.hok.fresh (Nat.le_refl _))
  · obtain ⟨its, rv, p, hz⟩ := I1.tuple hq
    refine wpAny_pyIter_tuple (show s1.heap.IsTuple a its.toArray from p) ?_
    refine ⟨s1.heap.objs.size, [s1.heap.objs.size], _, _, H1, rfl, I1.kept (t' := s1.toks) fun b o e => Heap.get?_push_of_some _ e, turn_tuple a _, ⟨_, Heap.get?_push_size _ rfl, rfl, rfl⟩, fun b hb => ?_, q⟩
    obtain rfl := List.mem_singleton.mp hb
    exact I1.fpOk (Nat.le_refl _) (I1.hok.fresh (Nat.le_refl _))
end
end PB

/-! PZ: zip and enumerate over lists and tuples in any mix. -/
namespace PB
open PySem PySem.Spec L2
open PyProof.Rows hiding St
/-- a list, a tuple -/
inductive Sk where
  | l | t
def Sk.at : Sk → PySem.W.Frag → Hp → Addr → List V → Prop
  | .l, K, H, a, xs => SqL K H a xs
  | .t, K, H, a, xs => SqT K H a xs
def Sk.iter : Sk → Heap → Addr → Addr → Nat → Prop
  | .l, h, it, a, i => h.IsListIter it a i
  | .t, h, it, a, i => h.IsTupleIter it a i
def Sk.its : Sk → Heap → Addr → Array Value → Prop
  | .l, h, a, vs => h.IsList a vs
  | .t, h, a, vs => h.IsTuple a vs
def Sk.obj : Sk → Addr → Obj
  | .l, a => { cls := .type "list_iterator", data := .fields #[.ref a, .int 0 0] }
  | .t, a => { cls := .type "tuple_iterator", data := .fields #[.ref a, .int 0 0] }
theorem Sk.draws (k : Sk) {prog : Program} {w : World} {A : Around} (hh : A.handled = none) (it a : Addr) (hne : a ≠ it) (vs : Array Value) :
    Draws prog w A it [it, a] vs.size (fun i v => vs[i]? = some v) (fun i h => k.iter h it a i ∧ k.its h a vs) := by
  cases k with
  | l => exact Draws.list hh it a hne vs
  | t => exact Draws.tuple hh it a hne vs
theorem Sk.begins (k : Sk) (a : Addr) (vs : Array Value) : Begins (.ref a) (k.obj a) fun h => k.its h a vs := by
  cases k with
  | l => exact begins_list a vs
  | t => exact begins_tuple a vs
theorem Sk.start (k : Sk) {h : Heap} {it a : Addr} (e : h.get? it = some (k.obj a)) : k.iter h it a 0 := by
  cases k with
  | l => exact ⟨_, e, rfl, rfl⟩
  | t => exact ⟨_, e, rfl, rfl⟩
theorem Sk.keep (k : Sk) {h h' : Heap} {it a : Addr} {i : Nat} (x : k.iter h it a i) (kp : ∀ o, h.get? it = some o → h'.get? it = some o) : k.iter h' it a i := by
  cases k with
  | l => exact Heap.IsListIter.at x kp
  | t => exact Heap.IsTupleIter.at x kp
theorem Sk.there (k : Sk) {h : Heap} {it a : Addr} {i : Nat} (x : k.iter h it a i) : ∃ o, h.get? it = some o ∧ ∀ v, o.data ≠ .cell v := by
  cases k with
  | l => obtain ⟨o, e, _, d⟩ := x; exact ⟨o, e, fun v q => by rw [d] at q; cases q⟩
  | t => obtain ⟨o, e, _, d⟩ := x; exact ⟨o, e, fun v q => by rw [d] at q; cases q⟩
theorem Sk.inv (k : Sk) {X : Cx} {pins : List (Addr × Obj)} {σ : St} {H : Hp} {s : Shared} {a : Addr} {xs : List V} (I : Inv X pins σ H s) (h : k.at X.K H a xs) :
    ∃ its : List Value, Vals xs its ∧ k.its s.heap a its.toArray ∧ a < s.heap.objs.size := by
  cases k with
  | l => obtain ⟨its, r, p, _⟩ := I.list h; exact ⟨its, r, p.isList, p.lt⟩
  | t => obtain ⟨its, r, p, _⟩ := I.tuple h; exact ⟨its, r, p, p.lt⟩
theorem Sk.inj (k : Sk) {X : Cx} {pins : List (Addr × Obj)} {σ : St} {H : Hp} {s : Shared} {a : Addr} {xs ys : List V} (I : Inv X pins σ H s) (h : k.at X.K H a xs) (h' : k.at X.K H a ys) : xs = ys := by
  cases k with
  | l => exact I.list_inj h h'
  | t => exact I.tuple_inj h h'
/-- the items of two sources in new pairs -/
def ItP (K : PySem.W.Frag) (k1 k2 : Sk) (a b : Addr) : It :=
  ⟨fun i H => ∃ (xs ys : List V) (x y : V), k1.at K H a xs ∧ k2.at K H b ys ∧ xs[i]? = some x ∧ ys[i]? = some y,
    fun i H v H' => ∃ T x y, v = .ref T ∧ H T = none ∧ H' = upd H T (.tup [x, y]) ∧ (∀ xs, k1.at K H a xs → xs[i]? = some x) ∧ ∀ ys, k2.at K H b ys → ys[i]? = some y,
    fun i H => ∃ xs ys : List V, k1.at K H a xs ∧ k2.at K H b ys ∧ i = min xs.length ys.length⟩
theorem get_of {xs : List V} {its : List Value} {i : Nat} {x : V} (r : Vals xs its) (h : xs[i]? = some x) {u : Value} (hu : its.toArray[i]? = some u) : RelV x u := by
  obtain ⟨w, hw, rw'⟩ := r.get h
  have e : its[i]? = some u := by simpa using hu
  rw [hw] at e
  cases e
  exact rw'
theorem turn_pair {P : Program} {w : World} {K : PySem.W.Frag} {elts : List Expr} {kk : Nat} {tpos : Pos} {k1 k2 : Sk} {a b z TI TO i1 i2 : Addr} (S : ZipSep2 z TI TO i1 i2 [i1, a] [i2, b]) (n1 : a ≠ i1) (n2 : b ≠ i2) :
    Turn P w K (.Tuple elts kk tpos) (ItP K k1 k2 a b) [z, TI, TO, i1, i2] z (fun i h => IsZip h z TI TO .none ∧ IsTupOf2 h TI (.ref i1) (.ref i2) ∧ (∃ x y, IsTupOf2 h TO x y) ∧ k1.iter h i1 a i ∧ k2.iter h i2 b i) where
  mem := by simp
  obj := fun i h st c hc => by
    obtain ⟨hz, hTI, ⟨x, y, hTO⟩, h1, h2⟩ := st
    simp only [List.mem_cons, List.not_mem_nil, or_false] at hc
    rcases hc with q | q | q | q | q <;> subst q
    · exact ⟨_, hz, fun v q => nomatch q⟩
    · exact ⟨_, hTI, fun v q => nomatch q⟩
    · exact ⟨_, hTO, fun v q => nomatch q⟩
    · exact k1.there h1
    · exact k2.there h2
  keep := fun i h h' st kp => by
    obtain ⟨hz, hTI, ⟨x, y, hTO⟩, h1, h2⟩ := st
    exact ⟨kp z (by simp) _ hz, kp TI (by simp) _ hTI, ⟨x, y, kp TO (by simp) _ hTO⟩, k1.keep h1 fun o q => kp i1 (by simp) o q, k2.keep h2 fun o q => kp i2 (by simp) o q⟩
  item := by
    intro X hP hw hK hc i pins s σ H E I hf st hg
    subst hP hw hK
    obtain ⟨hz, hTI, hTO, h1, h2⟩ := st
    obtain ⟨xs, ys, x, y, qx, qy, hx, hy⟩ := hg
    obtain ⟨us, r1, p1, _⟩ := k1.inv I qx
    obtain ⟨vs, r2, p2, _⟩ := k2.inv I qy
    have hh : X.A.in1.handled = none := I.ok.hd hc
    have W := GoesN.zip2 (prog := X.prog) (w := X.w) (A := X.A) (elts := elts) (x1 := kk) (pos := tpos) S (k1.draws hh i1 a n1 us.toArray) (k2.draws hh i2 b n2 vs.toArray)
    have l1 : i < us.toArray.size := by
      have := (List.getElem?_eq_some_iff.mp hx).1
      rw [r1.length] at this
      simpa using this
    have l2 : i < vs.toArray.size := by
      have := (List.getElem?_eq_some_iff.mp hy).1
      rw [r2.length] at this
      simpa using this
    refine W.goes i s _ E (Nat.lt_min.mpr ⟨l1, l2⟩) ⟨hz, hTI, hTO, ⟨h1, p1⟩, h2, p2⟩ fun v h' tk hY st' kp _ => ?_
    obtain ⟨T, u, u2, rfl, hT, e1, e2, o, eo, co, no, dO⟩ := hY
    obtain ⟨hz', hTI', hTO', ⟨h1', _⟩, h2', _⟩ := st'
    have new : ObjOk X.prog X.w (upd H T (.tup [x, y])) h' T (.tup [x, y]) :=
      ⟨by show 2 ≤ sizeLine; decide, [u, u2], .cons (get_of r1 hx e1) (.cons (get_of r2 hy e2) .nil), ⟨o, eo, co, no, dO⟩⟩
    have sub : ∀ c, c ∈ [z, TO, i1, i2] → c ∈ [z, TI, TO, i1, i2] := fun c hc => by
      simp only [List.mem_cons, List.not_mem_nil, or_false] at hc ⊢
      rcases hc with q | q | q | q
      · exact .inl q
      · exact .inr (.inr (.inl q))
      · exact .inr (.inr (.inr (.inl q)))
      · exact .inr (.inr (.inr (.inr q)))
    have I1 : Inv X pins σ (upd H T (.tup [x, y])) { s with heap := h', toks := tk } := I.turnedNew (ch := [z, TO, i1, i2]) (fun c o hb q => kp c o hb q) (fun c hc => hf c (sub c hc)) hT new
    refine ⟨.ref T, _, I1, rfl, ⟨T, x, y, rfl, I.hok.fresh hT, rfl, fun l hl => by rw [k1.inj I hl qx]; exact hx, fun l hl => by rw [k2.inj I hl qy]; exact hy⟩, ⟨hz', hTI', hTO', h1', h2'⟩, fun c hc => ?_⟩
    have lt : c < s.heap.objs.size := by
      simp only [List.mem_cons, List.not_mem_nil, or_false] at hc
      rcases hc with q | q | q | q | q <;> subst q
      · exact Heap.lt_size hz
      · exact Heap.lt_size hTI
      · obtain ⟨_, _, e⟩ := hTO; exact Heap.lt_size e
      · obtain ⟨_, e, _⟩ := k1.there h1; exact Heap.lt_size e
      · obtain ⟨_, e, _⟩ := k2.there h2; exact Heap.lt_size e
    rw [upd_ne (Nat.ne_of_lt (Nat.lt_of_lt_of_le lt hT))]
    exact (hf c hc).1
  done := by
    intro X hP hw hK hc i pins s σ H E I hf st hg
    subst hP hw hK
    obtain ⟨hz, hTI, hTO, h1, h2⟩ := st
    obtain ⟨xs, ys, qx, qy, hi⟩ := hg
    obtain ⟨us, r1, p1, _⟩ := k1.inv I qx
    obtain ⟨vs, r2, p2, _⟩ := k2.inv I qy
    have hh : X.A.in1.handled = none := I.ok.hd hc
    have W := GoesN.zip2 (prog := X.prog) (w := X.w) (A := X.A) (elts := elts) (x1 := kk) (pos := tpos) S (k1.draws hh i1 a n1 us.toArray) (k2.draws hh i2 b n2 vs.toArray)
    have en : i = min us.toArray.size vs.toArray.size := by
      rw [List.size_toArray, List.size_toArray, ← r1.length, ← r2.length]
      exact hi
    subst en
    have sub : ∀ c, c ∈ [z, TO, i1, i2] → c ∈ [z, TI, TO, i1, i2] := fun c hc => by
      simp only [List.mem_cons, List.not_mem_nil, or_false] at hc ⊢
      rcases hc with q | q | q | q
      · exact .inl q
      · exact .inr (.inr (.inl q))
      · exact .inr (.inr (.inr (.inl q)))
      · exact .inr (.inr (.inr (.inr q)))
    exact W.stops s _ E ⟨hz, hTI, hTO, ⟨h1, p1⟩, h2, p2⟩ fun h' tk kp _ => I.turnedL (ch := [z, TO, i1, i2]) (fun c o hb q => kp c o hb q) (fun c hc => hf c (sub c hc))
  self := fun A i s Q E st h => wpAny_pyIter_zip st.1 h
def iZipM (K : PySem.W.Frag) (ta : TA) : TI := fun σ H R => ta σ H fun vs H1 => ∃ (k1 k2 : Sk) (a b : Addr) (xs ys : List V), vs = [.ref a, .ref b] ∧ k1.at K H1 a xs ∧ k2.at K H1 b ys ∧ R (ItP K k1 k2 a b) H1
theorem pi_zipM {X : Cx} {e e2 : Expr} {ta : TA} {p pos tpos : Pos} {elts : List Expr} {kk : Nat} (hg : Gl X "zip") (hm : X.mg "zip" = none) (ha : PA X [e, e2] ta)
    (hs : starEach [e, e2] X.env = (false, eval e X.env) :: starEach [e2] X.env := by rfl) (hpl : (backTo pos (starEach [e2] X.env)).any (·.1) = false := by rfl) :
    PI X (.Tuple elts kk tpos) (.Call (.Name "zip" p) [e, e2] [] pos) (iZipM X.K ta) := by
  refine ⟨fun pins s σ H R I h => ?_⟩
  refine Call_ (ld_blt I hg hm PyProof.Rows.boot_zip (PyProof.Rows.callWith_type1 (thn (ha.run pos pins s σ H _ I h) fun us s1 ⟨vs, H1, I1, r1, q1⟩ => ?_) hs hpl))
  obtain ⟨k1, k2, a, b, xs, ys, ex, qx, qy, q⟩ := q1
  subst ex
  obtain ⟨u1, u2, rfl, ra, rb⟩ := vals2 r1
  obtain rfl : u1 = Value.ref a := ra
  obtain rfl : u2 = Value.ref b := rb
  obtain ⟨its, _, p1, la⟩ := k1.inv I1 qx
  obtain ⟨its2, _, p2, lb⟩ := k2.inv I1 qy
  refine zip_begins2 (k1.begins a its.toArray) (k2.begins b its2.toArray) p1 p2 fun h' hz hTI hTO e1 e2 _ hk => wpAny_pyIter_zip hz ?_
  have I2 : Inv X pins σ H1 { s1 with heap := h' } := I1.kept (t' := s1.toks) hk
  have S := zip_sep2 (N := s1.heap.objs.size) (fp1 := [a]) (fp2 := [b]) (fun c hc => by rw [List.mem_singleton.mp hc]; exact la) (fun c hc => by rw [List.mem_singleton.mp hc]; exact lb)
  refine ⟨s1.heap.objs.size + 4, [s1.heap.objs.size + 4, s1.heap.objs.size + 2, s1.heap.objs.size + 3, s1.heap.objs.size, s1.heap.objs.size + 1], _, _, H1, rfl, I2, turn_pair S (Nat.ne_of_lt la) (Nat.ne_of_lt (Nat.lt_succ_of_lt lb)),
    ⟨hz, hTI, ⟨_, _, hTO⟩, k1.start e1, k2.start e2⟩, fun c hc => ?_, q⟩
  have hle : s1.heap.objs.size ≤ c := by
    simp only [List.mem_cons, List.not_mem_nil, or_false] at hc
    rcases hc with z | z | z | z | z <;> rw [z]
    · exact Nat.le_add_right _ _
    · exact Nat.le_add_right _ _
    · exact Nat.le_add_right _ _
    · exact Nat.le_refl _
    · exact Nat.le_add_right _ _
  exact I1.fpOk hle (I1.hok.fresh hle)
end PB

/-! PN: enumerate over a list or a tuple. -/
namespace PB
open PySem PySem.Spec L2
open PyProof.Rows hiding St
set_option maxHeartbeats 8000000 in
theorem enum_new1 {v : Value} {o : Obj} {H : Heap → Prop} (B : Begins v o H) :
    Meets (Builtin.«enumerate.__new__» ⟨[.type "enumerate", v], []⟩) fun _ R s => H s.heap ∧
      R (.ok (.ret (.ref (s.heap.push o).objs.size))) { s with heap := (s.heap.push o).push { cls := .type "enumerate", data := .fields #[.none, .bool false, .ref s.heap.objs.size, rawInt 0, .none, .none] } } :=
  .of_wp fun prog w A R s h => by
    obtain ⟨hp, g, d, tk, os⟩ := s
    obtain ⟨h1, h⟩ := h
    have sb := sub_enumerate
    have q1 : ∀ {A' : Around} {E Q : Value → Shared → Prop}, Q (.ref hp.objs.size) ⟨hp.push o, g, d, tk, os⟩ → wpAny (model prog w) A' (pyIter v) Q E ⟨hp, g, d, tk, os⟩ := fun q => B.iter prog w _ _ ⟨hp, g, d, tk, os⟩ _ h1 q
    wp_walk using q1
    refine wpAny_stack_any fun st => wpAny_pure ?_
    split
    · rename_i c _ _ _ _ _
      cases (c == Value.type "enumerate") <;> (wp_walk using q1; exact ⟨_, rfl, h⟩)
    · wp_walk using q1
      exact ⟨_, rfl, h⟩
theorem enum_begins1 {prog : Program} {w : World} {A : Around} {E Q : Value → Shared → Prop} {s : Shared} {v : Value} {o : Obj} {H : Heap → Prop} (B : Begins v o H) (h1 : H s.heap)
    (h : ∀ h', IsEnum h' (s.heap.objs.size + 1) s.heap.objs.size 0 .none → h'.get? s.heap.objs.size = some o → (∀ b u, s.heap.get? b = some u → h'.get? b = some u) → Q (.ref (s.heap.objs.size + 1)) { s with heap := h' }) :
    wpAny (model prog w) A (call (.type "enumerate") [v]) Q E s := by
  refine callType_new F.called_enumerate (by decide) (F.typeCall_enumerate_1 _) (F.newCall_enumerate_1 _) (fun x => F.args_object_init_2 x _) F.entry_enumerate_new (enum_new1 B) ⟨h1, ?_⟩
  show _ ∧ _
  have hz : (s.heap.push o).objs.size = s.heap.objs.size + 1 := Heap.size_push ..
  rw [hz]
  have he : IsEnum ((s.heap.push o).push { cls := .type "enumerate", data := .fields #[.none, .bool false, .ref s.heap.objs.size, rawInt 0, .none, .none] }) (s.heap.objs.size + 1) s.heap.objs.size 0 .none := by
    rw [← hz]
    exact Heap.get?_push_size (s.heap.push o) rfl
  exact ⟨⟨_, he, rfl⟩, h _ he (Heap.get?_push_of_some _ (Heap.get?_push_size _ B.free)) fun b u x => Heap.get?_push_of_some _ (Heap.get?_push_of_some _ x)⟩
/-- the items of a source, each in a new pair with its index -/
def ItE (K : PySem.W.Frag) (k : Sk) (a : Addr) : It :=
  ⟨fun i H => ∃ (xs : List V) (x : V), k.at K H a xs ∧ xs[i]? = some x,
    fun i H v H' => ∃ T x, v = .ref T ∧ H T = none ∧ H' = upd H T (.tup [.int (i : Nat), x]) ∧ ∀ xs, k.at K H a xs → xs[i]? = some x,
    fun i H => ∃ xs : List V, k.at K H a xs ∧ i = xs.length⟩
theorem turn_num {P : Program} {w : World} {K : PySem.W.Frag} {elts : List Expr} {kk : Nat} {tpos : Pos} {k : Sk} {a e it : Addr} (n1 : a ≠ it) (n2 : e ≠ it) (n3 : e ≠ a) :
    Turn P w K (.Tuple elts kk tpos) (ItE K k a) [e, it] e (fun i h => (∃ old, IsEnum h e it ((0 : Int) + (i : Nat)) old) ∧ k.iter h it a i) where
  mem := by simp
  obj := fun i h st c hc => by
    obtain ⟨⟨old, he⟩, h1⟩ := st
    simp only [List.mem_cons, List.not_mem_nil, or_false] at hc
    rcases hc with q | q <;> subst q
    · exact ⟨_, he, fun v q => nomatch q⟩
    · exact k.there h1
  keep := fun i h h' st kp => by
    obtain ⟨⟨old, he⟩, h1⟩ := st
    exact ⟨⟨old, kp e (by simp) _ he⟩, k.keep h1 fun o q => kp it (by simp) o q⟩
  item := by
    intro X hP hw hK hc i pins s σ H E I hf st hg
    subst hP hw hK
    obtain ⟨he, h1⟩ := st
    obtain ⟨xs, x, qx, hx⟩ := hg
    obtain ⟨us, r1, p1, _⟩ := k.inv I qx
    have hh : X.A.in1.handled = none := I.ok.hd hc
    have W := GoesN.enumFrom (prog := X.prog) (w := X.w) (A := X.A) (elts := elts) (x1 := kk) (pos := tpos) 0 (k.draws hh it a n1 us.toArray) e n2 (by simp [n2, n3]) (by simp)
    have l1 : i < us.toArray.size := by
      have := (List.getElem?_eq_some_iff.mp hx).1
      rw [r1.length] at this
      simpa using this
    refine W.goes i s _ E l1 ⟨he, h1, p1⟩ fun v h' tk hY st' kp _ => ?_
    obtain ⟨T, t, u, rfl, hT, e1, o, eo, co, no, dO⟩ := hY
    obtain ⟨he', h1', _⟩ := st'
    have new : ObjOk X.prog X.w (upd H T (.tup [.int (i : Nat), x])) h' T (.tup [.int (i : Nat), x]) := by
      refine ⟨by show 2 ≤ sizeLine; decide, [.int (0 + (i : Nat)) t, u], .cons ⟨t, ?_⟩ (.cons (get_of r1 hx e1) .nil), ⟨o, eo, co, no, dO⟩⟩
      rw [Int.zero_add]
    have I1 : Inv X pins σ (upd H T (.tup [.int (i : Nat), x])) { s with heap := h', toks := tk } := I.turnedNew (ch := [e, it]) (fun c o hb q => kp c o hb q) hf hT new
    refine ⟨.ref T, _, I1, rfl, ⟨T, x, rfl, I.hok.fresh hT, rfl, fun l hl => by rw [k.inj I hl qx]; exact hx⟩, ⟨he', h1'⟩, fun c hc => ?_⟩
    have lt : c < s.heap.objs.size := by
      simp only [List.mem_cons, List.not_mem_nil, or_false] at hc
      rcases hc with q | q <;> subst q
      · obtain ⟨_, e⟩ := he; exact Heap.lt_size e
      · obtain ⟨_, e, _⟩ := k.there h1; exact Heap.lt_size e
    rw [upd_ne (Nat.ne_of_lt (Nat.lt_of_lt_of_le lt hT))]
    exact (hf c hc).1
  done := by
    intro X hP hw hK hc i pins s σ H E I hf st hg
    subst hP hw hK
    obtain ⟨he, h1⟩ := st
    obtain ⟨xs, qx, hi⟩ := hg
    obtain ⟨us, r1, p1, _⟩ := k.inv I qx
    have hh : X.A.in1.handled = none := I.ok.hd hc
    have W := GoesN.enumFrom (prog := X.prog) (w := X.w) (A := X.A) (elts := elts) (x1 := kk) (pos := tpos) 0 (k.draws hh it a n1 us.toArray) e n2 (by simp [n2, n3]) (by simp)
    have en : i = us.toArray.size := by
      rw [List.size_toArray, ← r1.length]
      exact hi
    subst en
    exact W.stops s _ E ⟨he, h1, p1⟩ fun h' tk kp _ => I.turnedL (ch := [e, it]) (fun c o hb q => kp c o hb q) hf
  self := fun A i s Q E st h => let ⟨⟨_, he⟩, _⟩ := st; wpAny_pyIter_enum he h
def iEnumM (K : PySem.W.Frag) (ta : TA) : TI := fun σ H R => ta σ H fun vs H1 => ∃ (k : Sk) (a : Addr) (xs : List V), vs = [.ref a] ∧ k.at K H1 a xs ∧ R (ItE K k a) H1
theorem pi_enumM {X : Cx} {e : Expr} {ta : TA} {p pos tpos : Pos} {elts : List Expr} {kk : Nat} (cl : X.calm = true) (hm : X.mg "enumerate" = none) (ha : PA X [e] ta) (hg : Gl X "enumerate" := by rfl) (hs : starEach [e] X.env = [(false, eval e X.env)] := by rfl) :
    PI X (.Tuple elts kk tpos) (.Call (.Name "enumerate" p) [e] [] pos) (iEnumM X.K ta) := by
  refine ⟨fun pins s σ H R I h => ?_⟩
  refine Call_ (ld_blt I hg hm boot_enumerate (PyProof.Rows.callWith_type1 (thn (ha.run pos pins s σ H _ I h) fun us s1 ⟨vs, H1, I1, r1, q1⟩ => ?_) hs rfl))
  obtain ⟨k, a, xs, ex, qx, q⟩ := q1
  subst ex
  rw [Vals.ref1 r1]
  obtain ⟨its, _, p1, la⟩ := k.inv I1 qx
  refine enum_begins1 (k.begins a its.toArray) p1 fun h' he e1 hk => wpAny_pyIter_enum he ?_
  have I2 : Inv X pins σ H1 { s1 with heap := h' } := I1.kept (t' := s1.toks) hk
  refine ⟨s1.heap.objs.size + 1, [s1.heap.objs.size + 1, s1.heap.objs.size], _, _, H1, rfl, I2, turn_num (Nat.ne_of_lt la) (Nat.succ_ne_self _) (Nat.ne_of_gt (Nat.lt_succ_of_lt la)), ⟨⟨.none, he⟩, k.start e1⟩, fun c hc => ?_, q⟩
  have hle : s1.heap.objs.size ≤ c := by
    simp only [List.mem_cons, List.not_mem_nil, or_false] at hc
    rcases hc with z | z <;> rw [z]
    · exact Nat.le_add_right _ _
    · exact Nat.le_refl _
  exact I1.fpOk hle (I1.hok.fresh hle)
/-- xs[i] read, for an xs[i] op= e -/
theorem get_list {X : Cx} : PGet X (rIxL X.K) := by
  intro pins s σ H o i ov iv Q I ro ri h
  obtain ⟨p, xs, k, z, rfl, rfl, hq, he, q⟩ := h
  obtain rfl : ov = Value.ref p := ro
  obtain ⟨t, rfl⟩ := (show ∃ t, iv = Value.int k t from ri)
  obtain ⟨its, r, pl, hz⟩ := I.list hq
  obtain ⟨j, h1, h2, h3, h4, h5⟩ := atI_get he
  obtain ⟨u, eu, ru⟩ := r.get h2
  have hl := r.length
  have hn := line63
  have fin : EP X pins σ Q u s := ⟨z, H, I, ru, q⟩
  by_cases h0 : 0 ≤ k
  · have hj : k.toNat = j := Option.some.inj ((seqIndex_of h0 h5).symm.trans h1)
    exact wpAny_getItem_list pl.isList h0 (by omega) (by rw [hj]; simpa using eu) fin
  · have hj : (k + (its.toArray.size : Int)).toNat = j := by
      rw [List.size_toArray, ← hl]
      exact Option.some.inj ((seqIndex_neg (by omega) h4).symm.trans h1)
    exact wpAny_getItem_list_neg pl.isList (by omega) (by rw [List.size_toArray] <;> omega) (by omega) (by rw [hj]; simpa using eu) fin
end PB

/-! PL: readings of loops, comprehensions, operators by kind. -/
namespace PB
open PySem PySem.Spec L2
open PyProof.Rows hiding St
section
variable {K : PySem.W.Frag} {H H' : Hp} {a p d : Addr} {xs ys : List V} {o : HO}
theorem sqL_of (h : H a = some (.lst xs)) : SqL K H a xs := .inl (.inl h)
theorem sqT_of (h : H a = some (.tup xs)) : SqT K H a xs := .inl (.inl h)
theorem sqL_new : SqL K (upd H p (.lst xs)) p xs := sqL_of upd_same
theorem sqT_new : SqT K (upd H p (.tup xs)) p xs := sqT_of upd_same
theorem sqL_ex (e : Ex H H') (h : SqL K H a xs) : SqL K H' a xs := e.sqL h
theorem sqT_ex (e : Ex H H') (h : SqT K H a xs) : SqT K H' a xs := e.sqT h
theorem sqL_up (n : H p = none) (h : SqL K H a xs) : SqL K (upd H p o) a xs := sqL_ex (Ex.new n) h
theorem sqT_up (n : H p = none) (h : SqT K H a xs) : SqT K (upd H p o) a xs := sqT_ex (Ex.new n) h
theorem at_ex {u : HO} (e : Ex H H') (h : H a = some u) : H' a = some u := e a u h
theorem at_up {u : HO} (n : H p = none) (h : H a = some u) : upd H p o a = some u := Ex.new n a u h
theorem free_up {q : Addr} (h : upd H p o q = none) (n : H p = none) : H q = none := (Ex.new (o := o) n).free h
/-- what stood elsewhere stands -/
theorem sqT_exb (e : ExB d H H') (n : a ≠ d) (h : SqT K H a xs) : SqT K H' a xs := by
  rcases h with (h | ⟨o, h⟩) | h
  · exact .inl (.inl (e _ _ n h))
  · exact .inl (.inr ⟨o, e _ _ n h⟩)
  · exact .inr h
theorem sqL_exb (e : ExB d H H') (n : a ≠ d) (h : SqL K H a xs) : SqL K H' a xs := by
  rcases h with (h | ⟨o, h⟩) | h
  · exact .inl (.inl (e _ _ n h))
  · exact .inl (.inr ⟨o, e _ _ n h⟩)
  · exact .inr h
/-- what is a tuple is no list of H -/
theorem sqT_ne {xs ys : List V} (h : SqT K H a xs) (hd : H d = some (.lst ys)) : a = d → ∃ o its n, K.lookup a = some o ∧ o.cls = .type "tuple" ∧ o.data = .seq its n ∧ its.size ≤ sizeLine ∧ Vals xs its.toList := fun e => by
  subst e
  rcases h with (h | ⟨o, h⟩) | h
  · rw [hd] at h; cases h
  · rw [hd] at h; cases h
  · exact h
end
section
variable {σ : St} {H : Hp} {Q : VK} {D : Ends} {K : PySem.W.Frag} {a b : Addr} {i j : Int}
/-! operators on ints -/
theorem r_addI (q : Q (.int (i + j)) H) : rAddA K (.int i) (.int j) H Q := .inl ⟨i, j, rfl, rfl, q⟩
theorem r_mulI (c : CMul i j) (q : Q (.int (i * j)) H) : rMulA K (.int i) (.int j) H Q := .inl ⟨i, j, rfl, rfl, c, q⟩
theorem r_mulT {l : Addr} {xs : List V} {k : Int} (h : SqT K H l xs) (c1 : xs ≠ []) (c2 : 2 ≤ k) (c3 : k ≤ 1000) (c4 : xs.length ≤ 1000) (q : ∀ p, H p = none → Q (.ref p) (upd H p (.tup (List.replicate k.toNat xs).flatten))) : rMulA K (.ref l) (.int k) H Q := .inr (.inr ⟨l, k, xs, rfl, rfl, h, c1, c2, c3, c4, q⟩)
theorem r_cmpI {g : Int → Int → Bool} {f : PyData → PyData → Bool} (q : Q (.bl (g i j)) H) : rCmpA K g f (.int i) (.int j) H Q := .inl ⟨i, j, rfl, rfl, q⟩
theorem r_eqI (q : Q (.bl (decide (i = j))) H) : rEqA K (.int i) (.int j) H Q := .inl ⟨rfl, by
  have e : decide (V.int i = V.int j) = decide (i = j) := decide_eq_decide.mpr ⟨fun h => V.int.inj h, fun h => by rw [h]⟩
  rw [e]; exact q⟩
theorem r_neI (q : Q (.bl (!decide (i = j))) H) : rNeA K (.int i) (.int j) H Q := .inl ⟨rfl, by
  have e : decide (V.int i = V.int j) = decide (i = j) := decide_eq_decide.mpr ⟨fun h => V.int.inj h, fun h => by rw [h]⟩
  rw [e]; exact q⟩
theorem r_modI (c : j ≠ 0) (q : Q (.int (i.fmod j)) H) : rI (fun _ j => j ≠ 0) (fun i j => .int (i.fmod j)) (.int i) (.int j) H Q := ⟨i, j, rfl, rfl, c, q⟩
theorem r_divI (c : CDivN i j) (q : Q (.int (i.fdiv j)) H) : rI CDivN (fun i j => .int (i.fdiv j)) (.int i) (.int j) H Q := ⟨i, j, rfl, rfl, c, q⟩
theorem r_powI (c : CPow i j) (q : Q (.int (i ^ j.toNat)) H) : rI CPow (fun i j => .int (i ^ j.toNat)) (.int i) (.int j) H Q := ⟨i, j, rfl, rfl, c, q⟩
/-! built-in functions -/
theorem r_sumL {ns : List Int} (h : SqL K H a (ns.map V.int)) (q : Q (.int ns.sum) H) : rSumA K [.ref a] H Q := .inl ⟨a, ns, rfl, h, q⟩
theorem r_sumT {ns : List Int} (h : SqT K H a (ns.map V.int)) (q : Q (.int ns.sum) H) : rSumA K [.ref a] H Q := .inr ⟨a, ns, rfl, h, q⟩
theorem r_all {bs : List Bool} (h : SqL K H a (bs.map V.bl)) (q : Q (.bl (bs.all id)) H) : rAll K [.ref a] H Q := ⟨a, bs, rfl, h, q⟩
theorem r_any {bs : List Bool} (h : SqL K H a (bs.map V.bl)) (q : Q (.bl (bs.any id)) H) : rAny K [.ref a] H Q := ⟨a, bs, rfl, h, q⟩
theorem r_max2 (q : Q (.int (max i j)) H) : rMax2A [V.int i, V.int j] H Q := ⟨i, j, rfl, by
  have e : (if j > i then j else i) = max i j := by omega
  rw [e]; exact q⟩
theorem r_min2 (q : Q (.int (min i j)) H) : rMin2A [V.int i, V.int j] H Q := ⟨i, j, rfl, by
  have e : (if j < i then j else i) = min i j := by omega
  rw [e]; exact q⟩
theorem r_abs (q : Q (.int (if i < 0 then -i else i)) H) : rAbsA [V.int i] H Q := ⟨i, rfl, q⟩
theorem r_int1 (q : Q (.int i) H) : rInt1A [V.int i] H Q := .inl ⟨i, rfl, q⟩
end
section
variable {H : Hp} {Q : VK} {K : PySem.W.Frag} {a : Addr} {xs : List V} {ns : List Int}
theorem r_isT (h : SqT K H a xs) (q : Q (.bl true) H) : rIsi K [.ref a, .ty "tuple"] H Q := r_isi (b := true) (.sqT h) rfl q
theorem r_lenL (h : SqL K H a xs) (q : Q (.int xs.length) H) : rLenA K [V.ref a] H Q := ⟨_, xs.length, rfl, .inl ⟨xs, h, rfl⟩, q⟩
theorem r_lenT (h : SqT K H a xs) (q : Q (.int xs.length) H) : rLenA K [V.ref a] H Q := ⟨_, xs.length, rfl, .inr ⟨xs, h, rfl⟩, q⟩
theorem r_lenLI (h : SqL K H a (ns.map V.int)) (q : Q (.int ns.length) H) : rLenA K [V.ref a] H Q := ⟨_, ns.length, rfl, .inl ⟨_, h, by rw [List.length_map]⟩, q⟩
theorem r_lenTI (h : SqT K H a (ns.map V.int)) (q : Q (.int ns.length) H) : rLenA K [V.ref a] H Q := ⟨_, ns.length, rfl, .inr ⟨_, h, by rw [List.length_map]⟩, q⟩
/-- tuple(list), ints -/
theorem r_tupL (h : SqL K H a xs) (q : ∀ p, H p = none → Q (.ref p) (upd H p (.tup xs))) : rTupA K [V.ref a] H Q := ⟨a, xs, rfl, .inl ⟨h, q⟩⟩
theorem r_tupT (h : SqT K H a xs) (q : Q (.ref a) H) : rTupA K [V.ref a] H Q := ⟨a, xs, rfl, .inr ⟨h, q⟩⟩
theorem r_listL (h : SqL K H a xs) (q : ∀ p, H p = none → Q (.ref p) (upd H p (.lst xs))) : rListA K [V.ref a] H Q := ⟨a, xs, rfl, .inl h, q⟩
theorem r_listT (h : SqT K H a xs) (q : ∀ p, H p = none → Q (.ref p) (upd H p (.lst xs))) : rListA K [V.ref a] H Q := ⟨a, xs, rfl, .inr h, q⟩
theorem r_ixL {i : Int} {v : V} (h : SqL K H a xs) (e : atI xs i = some v) (q : Q v H) : rIxA K (.ref a) (.int i) H Q := .inl ⟨a, xs, i, v, rfl, rfl, h, e, q⟩
theorem r_ixT {i : Int} {v : V} (h : SqT K H a xs) (e : atI xs i = some v) (q : Q v H) : rIxA K (.ref a) (.int i) H Q := .inr (.inl ⟨a, xs, i, v, rfl, rfl, h, e, q⟩)
theorem at_I {i : Nat} {n : Int} (h : ns[i]? = some n) : atI (ns.map V.int) (i : Int) = some (.int n) := atI_nat (by rw [List.getElem?_map, h]; rfl)
theorem r_ixLI {i : Nat} {n : Int} (h : SqL K H a (ns.map V.int)) (e : ns[i]? = some n) (q : Q (.int n) H) : rIxA K (.ref a) (.int (i : Nat)) H Q := r_ixL h (at_I e) q
theorem r_ixTI {i : Nat} {n : Int} (h : SqT K H a (ns.map V.int)) (e : ns[i]? = some n) (q : Q (.int n) H) : rIxA K (.ref a) (.int (i : Nat)) H Q := r_ixT h (at_I e) q
end
/-! loops: what a for asks of its walk, what a comprehension asks of it -/
def FQ (g : TG) (tb : TS) (D : Ends) (σ : St) : It → Hp → Prop := fun J H1 => ∃ W : Nat → Nat → St → Hp → Prop, (∃ m, W 0 m σ H1) ∧ ∀ i m σ H, W i m σ H →
  (J.stop i H ∧ D.nx σ H) ∨ (J.go i H ∧ ∃ N : St → Hp → Prop, (∀ σ' H', N σ' H' → ∃ m', m' < m ∧ W (i + 1) m' σ' H') ∧ ∀ x H', J.yld i H x H' → g x σ H' fun σ2 H2 => tb { D with nx := N, ct := N, bk := D.nx } σ2 H2)
def CQ (g : TG) (tt : TT) (te : TE) (vs : List Nat) (σ : St) (Q : VK) : It → Hp → Prop := fun J H1 => ∀ L, H1 L = none → ∃ W : Nat → Nat → Hp → Prop, (∃ m, W 0 m (upd H1 L (.lst []))) ∧ ∀ i m H, W i m H →
  (J.stop i H ∧ Q (.ref L) H) ∨ (J.go i H ∧ ∃ Nx : Hp → Prop, (∀ H', Nx H' → ∃ m', m' < m ∧ W (i + 1) m' H') ∧ ∀ x H', J.yld i H x H' → g x (wipe σ vs) H' fun σ2 H2 => wipe σ2 vs = wipe σ vs ∧ tt σ2 H2 fun b H3 =>
    if b = true then te σ2 H3 fun y H4 => ∃ acc, H4 L = some (.lst acc) ∧ acc.length < sizeLine ∧ Nx (upd H4 L (.lst (acc ++ [y]))) else Nx H3)
def sQ (K : PySem.W.Frag) (R : It → Hp → Prop) : VK := fun x H1 => ∃ a xs, x = .ref a ∧ ((SqL K H1 a xs ∧ R (Itl K a) H1) ∨ (SqT K H1 a xs ∧ R (Itt K a) H1))
def zQ (K : PySem.W.Frag) (R : It → Hp → Prop) : List V → Hp → Prop := fun vs H1 => ∃ (k1 k2 : Sk) (a b : Addr) (xs ys : List V), vs = [.ref a, .ref b] ∧ k1.at K H1 a xs ∧ k2.at K H1 b ys ∧ R (ItP K k1 k2 a b) H1
def eQ (K : PySem.W.Frag) (R : It → Hp → Prop) : List V → Hp → Prop := fun vs H1 => ∃ (k : Sk) (a : Addr) (xs : List V), vs = [.ref a] ∧ k.at K H1 a xs ∧ R (ItE K k a) H1
def nQ1 (R : It → Hp → Prop) : List V → Hp → Prop := fun vs H1 => ∃ j : Int, vs = [.int j] ∧ -(2 ^ 62) ≤ j ∧ j < 2 ^ 62 ∧ R (Itr 0 j.toNat) H1
def nQ2 (R : It → Hp → Prop) : List V → Hp → Prop := fun vs H1 => ∃ i j : Int, vs = [.int i, .int j] ∧ (-(2 ^ 62) ≤ i ∧ i < 2 ^ 62 ∧ -(2 ^ 62) ≤ j ∧ j < 2 ^ 62) ∧ R (Itr i (j - i).toNat) H1
section
variable {σ : St} {H : Hp} {Q : VK} {D : Ends} {K : PySem.W.Frag} {wi : TI} {tl : TE} {ta : TA} {g : TG} {tb : TS} {tt : TT} {te : TE} {vs : List Nat} {R : It → Hp → Prop}
theorem r_yes {Q : Bool → Hp → Prop} (h : Q true H) : tYes σ H Q := h
theorem r_for (h : wi σ H (FQ g tb D σ)) : tFor wi g tb D σ H := h
theorem r_lc (h : wi σ H (CQ g tt te vs σ Q)) : tLc wi g tt te vs σ H Q := h
theorem r_iSeq (h : tl σ H (sQ K R)) : iSeq K tl σ H R := h
theorem r_iZip (h : ta σ H (zQ K R)) : iZipM K ta σ H R := h
theorem r_iEnum (h : ta σ H (eQ K R)) : iEnumM K ta σ H R := h
theorem r_iRng1 (h : ta σ H (nQ1 R)) : iRng1 ta σ H R := h
theorem r_iRng2 (h : ta σ H (nQ2 R)) : iRng2 ta σ H R := h
end
section
variable {H : Hp} {K : PySem.W.Frag} {R : It → Hp → Prop} {a b : Addr} {xs ys : List V}
def ItS (K : PySem.W.Frag) : Sk → Addr → It
  | .l, a => Itl K a
  | .t, a => Itt K a
theorem walk_S {k : Sk} : Walk (ItS K k a) xs.length (fun H => k.at K H a xs) (YAt xs) := by
  cases k with
  | l => exact walk_list
  | t => exact walk_tup
theorem s_S {k : Sk} (h : k.at K H a xs) (r : R (ItS K k a) H) : sQ K R (.ref a) H := by
  cases k with
  | l => exact ⟨a, xs, rfl, .inl ⟨h, r⟩⟩
  | t => exact ⟨a, xs, rfl, .inr ⟨h, r⟩⟩
theorem s_L (h : SqL K H a xs) (r : R (Itl K a) H) : sQ K R (.ref a) H := ⟨a, xs, rfl, .inl ⟨h, r⟩⟩
theorem s_T (h : SqT K H a xs) (r : R (Itt K a) H) : sQ K R (.ref a) H := ⟨a, xs, rfl, .inr ⟨h, r⟩⟩
theorem z_P {k1 k2 : Sk} (h1 : k1.at K H a xs) (h2 : k2.at K H b ys) (r : R (ItP K k1 k2 a b) H) : zQ K R [.ref a, .ref b] H := ⟨k1, k2, a, b, xs, ys, rfl, h1, h2, r⟩
theorem e_P {k : Sk} (h : k.at K H a xs) (r : R (ItE K k a) H) : eQ K R [.ref a] H := ⟨k, a, xs, rfl, h, r⟩
theorem n_1 {n : Int} (h : -(2 ^ 62) ≤ n ∧ n < 2 ^ 62) (r : R (Itr 0 n.toNat) H) : nQ1 R [.int n] H := ⟨n, rfl, h.1, h.2, r⟩
theorem n_2 {m n : Int} (h : -(2 ^ 62) ≤ m ∧ m < 2 ^ 62 ∧ -(2 ^ 62) ≤ n ∧ n < 2 ^ 62) (r : R (Itr m (n - m).toNat) H) : nQ2 R [.int m, .int n] H := ⟨m, n, rfl, h, r⟩
theorem walk_P {k1 k2 : Sk} {n : Nat} (hn : n = min xs.length ys.length) : Walk (ItP K k1 k2 a b) n (fun H => k1.at K H a xs ∧ k2.at K H b ys) (YPair (fun i => xs[i]?) (fun i => ys[i]?)) := by
  subst hn
  refine ⟨fun i _ hi q => ?_, fun _ q => ⟨xs, ys, q.1, q.2, rfl⟩, fun i H v H' _ q y => ?_⟩
  · have h1 : i < xs.length := by omega
    have h2 : i < ys.length := by omega
    exact ⟨xs, ys, xs[i], ys[i], q.1, q.2, List.getElem?_eq_getElem h1, List.getElem?_eq_getElem h2⟩
  · obtain ⟨T, x, z, h1, h2, h3, h4, h5⟩ := y
    exact ⟨T, x, z, h1, h2, h3, h4 xs q.1, h5 ys q.2⟩
theorem walk_E {k : Sk} : Walk (ItE K k a) xs.length (fun H => k.at K H a xs) (YPair (fun i => some (.int (i : Nat))) (fun i => xs[i]?)) := by
  refine ⟨fun i _ hi q => ⟨xs, xs[i], q, List.getElem?_eq_getElem hi⟩, fun _ q => ⟨xs, q, rfl⟩, fun i H v H' _ q y => ?_⟩
  obtain ⟨T, x, h1, h2, h3, h4⟩ := y
  exact ⟨T, .int (i : Nat), x, h1, h2, h3, rfl, h4 xs q⟩
end
/-! a for by its walk -/
section
variable {σ : St} {H : Hp} {D : Ends} {K : PySem.W.Frag} {g : TG} {tb : TS} {J : It} {n : Nat} {G : Hp → Prop} {Y : Nat → Hp → V → Hp → Prop}
theorem f_it (w : Walk J n G Y) (Pv : Nat → St → Hp → Prop) (h0 : Pv 0 σ H) (hG : ∀ i σ H, i ≤ n → Pv i σ H → G H)
    (hs : ∀ i x σ H H', i < n → Pv i σ H → Y i H x H' → g x σ H' fun σ2 H2 => tb { D with nx := Pv (i + 1), ct := Pv (i + 1), bk := D.nx } σ2 H2) (hd : ∀ σ H, Pv n σ H → D.nx σ H) : FQ g tb D σ J H := for_it w Pv h0 hG hs hd
/-- a range by one name -/
theorem f_rng {lo : Int} {j : Nat} (Pv : Nat → St → Hp → Prop) (h0 : Pv 0 σ H)
    (hs : ∀ (i : Nat) σ H, i < n → Pv i σ H → tb { D with nx := Pv (i + 1), ct := Pv (i + 1), bk := D.nx } (σ.set j (some (.int (lo + i)))) H) (hd : ∀ σ H, Pv n σ H → D.nx σ H) : FQ (gName j) tb D σ (Itr lo n) H :=
  for_range Pv h0 (fun i σ H hi p => hs i σ H hi p) hd
/-- a list or a tuple by one name -/
theorem f_seq {k : Sk} {a : Addr} {xs : List V} {j : Nat} (h : k.at K H a xs) (Pv : Nat → St → Hp → Prop) (h0 : Pv 0 σ H) (hG : ∀ i σ H, i ≤ xs.length → Pv i σ H → k.at K H a xs)
    (hs : ∀ i x σ H, xs[i]? = some x → Pv i σ H → tb { D with nx := Pv (i + 1), ct := Pv (i + 1), bk := D.nx } (σ.set j (some x)) H) (hd : ∀ σ H, Pv xs.length σ H → D.nx σ H) : sQ K (FQ (gName j) tb D σ) (.ref a) H :=
  s_S h (f_it walk_S Pv h0 hG (fun i x σ H H' _ p y => by
    obtain ⟨e, y⟩ := y
    subst e
    exact hs i x σ H' y p) hd)
/-- a pair's two names -/
theorem g_two {σ : St} {H : Hp} {K : PySem.W.Frag} {i j : Nat} {T : Addr} {x y : V} {Q : St → Hp → Prop} (q : Q ((σ.set i (some x)).set j (some y)) (upd H T (.tup [x, y]))) : gTup K 2 (gCons (gName i) (gCons (gName j) gNil)) (.ref T) σ (upd H T (.tup [x, y])) Q :=
  ⟨T, [x, y], rfl, sqT_new, rfl, x, [y], rfl, y, [], rfl, rfl, q⟩
/-- enumerate by two names -/
theorem f_enum {k : Sk} {a : Addr} {xs : List V} {j l : Nat} (h : k.at K H a xs) (Pv : Nat → St → Hp → Prop) (h0 : Pv 0 σ H) (hG : ∀ i σ H, i ≤ xs.length → Pv i σ H → k.at K H a xs)
    (hs : ∀ (i : Nat) x T σ H, xs[i]? = some x → Pv i σ H → H T = none → tb { D with nx := Pv (i + 1), ct := Pv (i + 1), bk := D.nx } ((σ.set j (some (.int (i : Nat)))).set l (some x)) (upd H T (.tup [.int (i : Nat), x]))) (hd : ∀ σ H, Pv xs.length σ H → D.nx σ H) :
    eQ K (FQ (gTup K 2 (gCons (gName j) (gCons (gName l) gNil))) tb D σ) [.ref a] H :=
  e_P h (f_it walk_E Pv h0 hG (fun i x σ H H' _ p y => by
    obtain ⟨T, u, v, e1, h1, e2, e3, e4⟩ := y
    obtain rfl := Option.some.inj e3
    subst e1 e2
    exact g_two (hs i v T σ H e4 p h1)) hd)
/-- zip by two names -/
theorem f_zip {k1 k2 : Sk} {a b : Addr} {xs ys : List V} {j l : Nat} (h1 : k1.at K H a xs) (h2 : k2.at K H b ys) (hn : n = min xs.length ys.length) (Pv : Nat → St → Hp → Prop) (h0 : Pv 0 σ H) (hG : ∀ i σ H, i ≤ n → Pv i σ H → k1.at K H a xs ∧ k2.at K H b ys)
    (hs : ∀ (i : Nat) x y T σ H, xs[i]? = some x → ys[i]? = some y → Pv i σ H → H T = none → tb { D with nx := Pv (i + 1), ct := Pv (i + 1), bk := D.nx } ((σ.set j (some x)).set l (some y)) (upd H T (.tup [x, y]))) (hd : ∀ σ H, Pv n σ H → D.nx σ H) :
    zQ K (FQ (gTup K 2 (gCons (gName j) (gCons (gName l) gNil))) tb D σ) [.ref a, .ref b] H :=
  z_P h1 h2 (f_it (walk_P hn) Pv h0 hG (fun i x σ H H' _ p y => by
    obtain ⟨T, u, v, e1, h1, e2, e3, e4⟩ := y
    subst e1 e2
    exact g_two (hs i u v T σ H e3 e4 p h1)) hd)
end
/-! a comprehension by its walk -/
section
variable {σ : St} {H : Hp} {Q : VK} {K : PySem.W.Frag} {g : TG} {tt : TT} {te : TE} {vs : List Nat} {J : It} {n : Nat} {G : Hp → Prop} {Y : Nat → Hp → V → Hp → Prop}
/-- nothing that stood changes; Φ is told of the items so far -/
theorem c_it (w : Walk J n G Y) (hn : n < 16000000) (hG : ∀ H', Ex H H' → G H') (Φ : Nat → List V → Hp → Prop) (h0 : ∀ H', Ex H H' → Φ 0 [] H')
    (st : ∀ L i acc H1 u u', H1 L = some (.lst u) → H L = none → Φ i acc H1 → Φ i acc (upd H1 L (.lst u')))
    (turn : ∀ i x acc H1 H2 (q : VK) (N : Hp → Prop), i < n → Ex H H1 → Φ i acc H1 → Y i H1 x H2 → (∀ y H4, Ex H1 H4 → Φ (i + 1) (acc ++ [y]) H4 → q y H4) → (∀ H3, Ex H1 H3 → Φ (i + 1) acc H3 → N H3) →
      g x (wipe σ vs) H2 fun σ2 H3 => wipe σ2 vs = wipe σ vs ∧ tt σ2 H3 fun b H4 => if b = true then te σ2 H4 q else N H4)
    (done : ∀ L acc H', H L = none → Ex H H' → H' L = some (.lst acc) → acc.length ≤ n → Φ n acc H' → Q (.ref L) H') : CQ g tt te vs σ Q J H := by
  intro L hL
  refine lc_it w (fun i H' => ∃ acc, Ex H H' ∧ H' L = some (.lst acc) ∧ acc.length ≤ i ∧ Φ i acc H') ⟨[], Ex.new hL, upd_same, Nat.le_refl _, h0 _ (Ex.new hL)⟩ (fun i H' _ p => hG H' p.choose_spec.1) ?_ ?_
  · rintro i x H1 H2 hi ⟨acc, e1, e2, e3, e4⟩ y
    refine turn i x acc H1 H2 _ _ hi e1 e4 y (fun z H4 e5 e6 => ⟨acc, e5 _ _ e2, Nat.lt_of_le_of_lt (Nat.le_trans e3 (by omega)) (show 16000000 < sizeLine by decide), acc ++ [z], ?_, upd_same, ?_, st L _ _ _ acc _ (e5 _ _ e2) hL e6⟩) fun H3 e5 e6 => ⟨acc, e1.trans e5, e5 _ _ e2, Nat.le_succ_of_le e3, e6⟩
    · intro b o hb
      have hne : b ≠ L := fun z => by rw [z, hL] at hb; cases hb
      exact (upd_ne hne).trans ((e1.trans e5) b o hb)
    · rw [List.length_append, List.length_singleton]; omega
  · rintro H' ⟨acc, e1, e2, e3, e4⟩
    exact done L acc H' hL e1 e2 e3 e4
/-- what each turn gives is known ahead: f i, or nothing -/
theorem c_fn (w : Walk J n G Y) (f : Nat → Option V) (hn : n < 16000000) (hG : ∀ H', Ex H H' → G H')
    (turn : ∀ i x H1 H2 (q : VK) (N : Hp → Prop), i < n → Ex H H1 → Y i H1 x H2 → (∀ y H4, f i = some y → Ex H1 H4 → q y H4) → (∀ H3, f i = none → Ex H1 H3 → N H3) →
      g x (wipe σ vs) H2 fun σ2 H3 => wipe σ2 vs = wipe σ vs ∧ tt σ2 H3 fun b H4 => if b = true then te σ2 H4 q else N H4)
    (done : ∀ L H', H L = none → Ex H H' → H' L = some (.lst ((List.range n).filterMap f)) → Q (.ref L) H') : CQ g tt te vs σ Q J H := by
  refine c_it w hn hG (fun i acc _ => acc = (List.range i).filterMap f) (fun _ _ => rfl) (fun _ _ _ _ _ _ _ _ e => e) ?_ ?_
  · intro i x acc H1 H2 q N hi e1 e2 y hq hN
    refine turn i x H1 H2 q N hi e1 y (fun z H4 e3 e4 => hq z H4 e4 ?_) fun H3 e3 e4 => hN H3 e4 ?_
    · rw [List.range_succ, List.filterMap_append, ← e2]
      show _ = acc ++ (List.filterMap f [i])
      rw [List.filterMap_cons, e3]; rfl
    · rw [List.range_succ, List.filterMap_append, ← e2]
      show _ = acc ++ (List.filterMap f [i])
      rw [List.filterMap_cons, e3]; exact (List.append_nil _).symm
  · intro L acc H' hL e1 e2 _ e4
    rw [e4] at e2
    exact done L H' hL e1 e2
theorem range_fm {α β : Type} (xs : List β) (h : β → Option α) : (List.range xs.length).filterMap (fun i => xs[i]?.bind h) = xs.filterMap h := by
  induction xs with
  | nil => rfl
  | cons x xs ih =>
    rw [List.length_cons, List.range_succ_eq_map, List.filterMap_cons, List.filterMap_map]
    show (match h x with | none => _ | some b => _) = _
    rw [List.filterMap_cons, ← ih]; rfl
/-- over a list or a tuple, by one name, what it gives is a function of the item -/
theorem c_seq {k : Sk} {a : Addr} {xs : List V} {j : Nat} (h : k.at K H a xs) (f : V → Option V) (hn : xs.length < 16000000) (hG : ∀ H', Ex H H' → k.at K H' a xs) (hw : ∀ x, wipe ((wipe σ vs).set j (some x)) vs = wipe σ vs)
    (turn : ∀ x H1 (q : VK) (N : Hp → Prop), x ∈ xs → Ex H H1 → (∀ y H4, f x = some y → Ex H1 H4 → q y H4) → (∀ H3, f x = none → Ex H1 H3 → N H3) →
      tt ((wipe σ vs).set j (some x)) H1 fun b H4 => if b = true then te ((wipe σ vs).set j (some x)) H4 q else N H4)
    (done : ∀ L H', H L = none → Ex H H' → H' L = some (.lst (xs.filterMap f)) → Q (.ref L) H') : sQ K (CQ (gName j) tt te vs σ Q) (.ref a) H :=
  s_S h (c_fn walk_S (fun i => xs[i]?.bind f) hn hG (fun i x H1 H2 q N hi e1 y hq hN => by
    obtain ⟨e2, y⟩ := y
    subst e2
    refine ⟨hw x, turn x H2 q N (List.mem_of_getElem? y) e1 (fun z H4 e3 e4 => hq z H4 (by rw [y]; exact e3) e4) fun H3 e3 e4 => hN H3 (by rw [y]; exact e3) e4⟩)
    (fun L H' h1 h2 h3 => done L H' h1 h2 (by rw [← range_fm]; exact h3)))
/-- over zip, by two names -/
theorem c_zip {k1 k2 : Sk} {a b : Addr} {xs ys : List V} {j l : Nat} (h1 : k1.at K H a xs) (h2 : k2.at K H b ys) (f : V → V → Option V) (hl : xs.length = ys.length) (hn : xs.length < 16000000) (hG : ∀ H', Ex H H' → k1.at K H' a xs ∧ k2.at K H' b ys)
    (hw : ∀ x y, wipe (((wipe σ vs).set j (some x)).set l (some y)) vs = wipe σ vs)
    (turn : ∀ x y T H1 (q : VK) (N : Hp → Prop), (x, y) ∈ xs.zip ys → Ex H H1 → H1 T = none → (∀ z H4, f x y = some z → Ex H1 H4 → q z H4) → (∀ H3, f x y = none → Ex H1 H3 → N H3) →
      tt (((wipe σ vs).set j (some x)).set l (some y)) (upd H1 T (.tup [x, y])) fun b H4 => if b = true then te (((wipe σ vs).set j (some x)).set l (some y)) H4 q else N H4)
    (done : ∀ L H', H L = none → Ex H H' → H' L = some (.lst ((xs.zip ys).filterMap fun z => f z.1 z.2)) → Q (.ref L) H') : zQ K (CQ (gTup K 2 (gCons (gName j) (gCons (gName l) gNil))) tt te vs σ Q) [.ref a, .ref b] H := by
  have hz : (xs.zip ys).length = xs.length := by rw [List.length_zip]; omega
  refine z_P h1 h2 (c_fn (walk_P (n := xs.length) (by omega)) (fun i => (xs.zip ys)[i]?.bind fun z => f z.1 z.2) hn hG (fun i x H1 H2 q N hi e1 y hq hN => ?_) (fun L H' h1 h2 h3 => done L H' h1 h2 ?_))
  · obtain ⟨T, u, v, e2, e3, e4, e5, e6⟩ := y
    subst e2 e4
    have ez : (xs.zip ys)[i]? = some (u, v) := by
      rw [List.getElem?_zip_eq_some]
      exact ⟨e5, e6⟩
    exact g_two ⟨hw u v, turn u v T H1 q N (List.mem_of_getElem? ez) e1 e3 (fun z H4 e7 e8 => hq z H4 (by rw [ez]; exact e7) e8) fun H3 e7 e8 => hN H3 (by rw [ez]; exact e7) e8⟩
  · rw [← hz] at h3
    rw [h3]
    rw [range_fm (xs.zip ys) fun z => f z.1 z.2]
theorem Sk.ex {H H' : Hp} {a : Addr} {xs : List V} (k : Sk) (e : Ex H H') (h : k.at K H a xs) : k.at K H' a xs := by
  cases k with
  | l => exact sqL_ex e h
  | t => exact sqT_ex e h
/-- ints to ints -/
theorem c_seqI {k : Sk} {a : Addr} {ns : List Int} {j : Nat} (h : k.at K H a (ns.map V.int)) (f : Int → Int) (hn : ns.length < 16000000) (hw : ∀ x, wipe ((wipe σ vs).set j (some x)) vs = wipe σ vs)
    (turn : ∀ x H1 (q : VK) (N : Hp → Prop), x ∈ ns → Ex H H1 → (∀ H4, Ex H1 H4 → q (.int (f x)) H4) → tt ((wipe σ vs).set j (some (.int x))) H1 fun b H4 => if b = true then te ((wipe σ vs).set j (some (.int x))) H4 q else N H4)
    (done : ∀ L H', H L = none → Ex H H' → H' L = some (.lst ((ns.map f).map V.int)) → Q (.ref L) H') : sQ K (CQ (gName j) tt te vs σ Q) (.ref a) H := by
  refine c_seq h (fun v => match v with | .int i => some (.int (f i)) | _ => none) (by rw [List.length_map]; exact hn) (fun H' e => k.ex e h) hw (fun x H1 q N hx e hq _ => ?_) fun L H' h1 h2 h3 => done L H' h1 h2 ?_
  · obtain ⟨n, hn, rfl⟩ := List.mem_map.mp hx
    exact turn n H1 q N hn e fun H4 e4 => hq _ H4 rfl e4
  · rw [h3]
    congr 2
    clear h3 h hn turn done
    induction ns with
    | nil => rfl
    | cons n ns ih => rw [List.map_cons, List.filterMap_cons, ih]; rfl
/-- ints to truths -/
theorem c_seqB {k : Sk} {a : Addr} {ns : List Int} {j : Nat} (h : k.at K H a (ns.map V.int)) (f : Int → Bool) (hn : ns.length < 16000000) (hw : ∀ x, wipe ((wipe σ vs).set j (some x)) vs = wipe σ vs)
    (turn : ∀ x H1 (q : VK) (N : Hp → Prop), x ∈ ns → Ex H H1 → (∀ H4, Ex H1 H4 → q (.bl (f x)) H4) → tt ((wipe σ vs).set j (some (.int x))) H1 fun b H4 => if b = true then te ((wipe σ vs).set j (some (.int x))) H4 q else N H4)
    (done : ∀ L H', H L = none → Ex H H' → H' L = some (.lst ((ns.map f).map V.bl)) → Q (.ref L) H') : sQ K (CQ (gName j) tt te vs σ Q) (.ref a) H := by
  refine c_seq h (fun v => match v with | .int i => some (.bl (f i)) | _ => none) (by rw [List.length_map]; exact hn) (fun H' e => k.ex e h) hw (fun x H1 q N hx e hq _ => ?_) fun L H' h1 h2 h3 => done L H' h1 h2 ?_
  · obtain ⟨n, hn, rfl⟩ := List.mem_map.mp hx
    exact turn n H1 q N hn e fun H4 e4 => hq _ H4 rfl e4
  · rw [h3]
    congr 2
    clear h3 h hn turn done
    induction ns with
    | nil => rfl
    | cons n ns ih => rw [List.map_cons, List.filterMap_cons, ih]; rfl
theorem zip_I (f : Int → Int → Int) : ∀ gs as : List Int, (((gs.map V.int).zip (as.map V.int)).filterMap fun z => (match z.1, z.2 with | .int i, .int j => some (V.int (f i j)) | _, _ => none)) = ((gs.zip as).map fun p => f p.1 p.2).map V.int
  | [], _ => rfl
  | _ :: _, [] => rfl
  | g :: gs, a :: as => by
    rw [List.map_cons, List.map_cons, List.zip_cons_cons, List.zip_cons_cons, List.filterMap_cons, zip_I f gs as]; rfl
theorem mem_zipI : ∀ {gs as : List Int} {x y : V}, (x, y) ∈ (gs.map V.int).zip (as.map V.int) → ∃ i j, x = .int i ∧ y = .int j ∧ (i, j) ∈ gs.zip as
  | [], _, x, y, h => by rw [List.map_nil, List.zip_nil_left] at h; cases h
  | _ :: _, [], x, y, h => by rw [List.map_nil, List.zip_nil_right] at h; cases h
  | g :: gs, a :: as, x, y, h => by
    rw [List.map_cons, List.map_cons, List.zip_cons_cons, List.mem_cons] at h
    rcases h with h | h
    · cases h; exact ⟨g, a, rfl, rfl, List.mem_cons_self ..⟩
    · obtain ⟨i, j, h1, h2, h3⟩ := mem_zipI h
      exact ⟨i, j, h1, h2, List.mem_cons_of_mem _ h3⟩
/-- two sources of ints to ints -/
theorem c_zipI {k1 k2 : Sk} {a b : Addr} {gs as : List Int} {j l : Nat} (h1 : k1.at K H a (gs.map V.int)) (h2 : k2.at K H b (as.map V.int)) (f : Int → Int → Int) (hl : gs.length = as.length) (hn : gs.length < 16000000)
    (hw : ∀ x y, wipe (((wipe σ vs).set j (some x)).set l (some y)) vs = wipe σ vs)
    (turn : ∀ x y T H1 (q : VK) (N : Hp → Prop), (x, y) ∈ gs.zip as → Ex H H1 → H1 T = none → (∀ H4, Ex H1 H4 → q (.int (f x y)) H4) →
      tt (((wipe σ vs).set j (some (.int x))).set l (some (.int y))) (upd H1 T (.tup [.int x, .int y])) fun b H4 => if b = true then te (((wipe σ vs).set j (some (.int x))).set l (some (.int y))) H4 q else N H4)
    (done : ∀ L H', H L = none → Ex H H' → H' L = some (.lst (((gs.zip as).map fun p => f p.1 p.2).map V.int)) → Q (.ref L) H') : zQ K (CQ (gTup K 2 (gCons (gName j) (gCons (gName l) gNil))) tt te vs σ Q) [.ref a, .ref b] H := by
  refine c_zip h1 h2 (fun u v => match u, v with | .int i, .int j => some (V.int (f i j)) | _, _ => none) (by rw [List.length_map, List.length_map]; exact hl) (by rw [List.length_map]; exact hn) (fun H' e => ⟨k1.ex e h1, k2.ex e h2⟩) hw (fun x y T H1 q N hx e hT hq _ => ?_)
    fun L H' d1 d2 d3 => done L H' d1 d2 (by rw [d3, zip_I])
  obtain ⟨i, j, rfl, rfl, hm⟩ := mem_zipI hx
  exact turn i j T H1 q N hm e hT fun H4 e4 => hq _ H4 rfl e4
end
section
variable {σ : St} {H : Hp} {D : Ends} {c : TT} {tb : TS} {ta : TA} {i j : Nat} {x y : V}
theorem r_while (W : Nat → St → Hp → Prop) (m : Nat) (h0 : W m σ H)
    (hs : ∀ m σ H, W m σ H → c σ H fun b H1 => if b = true then ∃ N : St → Hp → Prop, (∀ σ' H', N σ' H' → ∃ m', m' < m ∧ W m' σ' H') ∧ tb { D with nx := N, ct := N, bk := D.nx } σ H1 else D.nx σ H1) : tWhile c tb D σ H := ⟨W, ⟨m, h0⟩, hs⟩
theorem r_wN {W : Nat → St → Hp → Prop} {m : Nat} (q : tb { D with nx := fun σ' H' => ∃ m', m' < m ∧ W m' σ' H', ct := fun σ' H' => ∃ m', m' < m ∧ W m' σ' H', bk := D.nx } σ H) :
    ∃ N : St → Hp → Prop, (∀ σ' H', N σ' H' → ∃ m', m' < m ∧ W m' σ' H') ∧ tb { D with nx := N, ct := N, bk := D.nx } σ H := ⟨_, fun _ _ p => p, q⟩
def pQ (i j : Nat) (D : Ends) (σ : St) : List V → Hp → Prop := fun vs H1 => ∃ v w, vs = [v, w] ∧ D.nx ((σ.set i (some v)).set j (some w)) H1
theorem r_par (h : ta σ H (pQ i j D σ)) : tPar i j ta D σ H := h
theorem r_pQ (h : D.nx ((σ.set i (some x)).set j (some y)) H) : pQ i j D σ [x, y] H := ⟨x, y, rfl, h⟩
theorem ix_nat {n i : Nat} (h : i < n) : ixN n (i : Int) = some i := by
  unfold ixN
  rw [if_pos (by omega), if_pos (by omega)]; simp
theorem r_setL {p : Addr} {xs : List V} {i : Nat} {v : V} {H : Hp} {Q : Hp → Prop} (h : H p = some (.lst xs)) (n : i < xs.length) (q : Q (upd H p (.lst (xs.set i v)))) : rSetL (.ref p) (.int (i : Nat)) v H Q := ⟨p, xs, _, i, rfl, rfl, h, ix_nat n, q⟩
theorem r_getL {K : PySem.W.Frag} {p : Addr} {xs : List V} {i : Nat} {v : V} {H : Hp} {Q : VK} (h : SqL K H p xs) (e : xs[i]? = some v) (q : Q v H) : rIxL K (.ref p) (.int (i : Nat)) H Q := ⟨p, xs, _, v, rfl, rfl, h, atI_nat e, q⟩
theorem r_augS {to ti te : TE} {tget : V → V → Hp → VK → Prop} {tip : TIp} {tset : TSet} (h : to σ H fun o H1 => ti σ H1 fun i H2 => tget o i H2 fun x H3 => te σ H3 fun y H4 => tip x y H4 fun z H5 => tset o i z H5 fun H6 => D.nx σ H6) : tAugS to ti te tget tip tset D σ H := h
theorem r_gsub {to ti : TE} {t : TSet} {v : V} {Q : St → Hp → Prop} (h : to σ H fun o H1 => ti σ H1 fun i H2 => t o i v H2 fun H3 => Q σ H3) : gSub to ti t v σ H Q := h
theorem r_sl {r : V → Option Int → Option Int → Hp → VK → Prop} {te : TE} {tl th : TO} {Q : VK} (h : te σ H fun x H1 => tl σ H1 fun l H2 => th σ H2 fun u H3 => r x l u H3 Q) : tSl r te tl th σ H Q := h
theorem r_part {t : TE} {Q : Option Int → Hp → Prop} (h : t σ H fun x H1 => ∃ i, x = .int i ∧ Q (some i) H1) : tPart t σ H Q := h
theorem r_nopart {Q : Option Int → Hp → Prop} (h : Q none H) : tNoPart σ H Q := h
theorem r_parI {n : Int} {P : Int → Prop} (h : P n) : ∃ i, V.int n = .int i ∧ P i := ⟨n, rfl, h⟩
end
section
variable {H : Hp} {Q : VK} {K : PySem.W.Frag} {a b : Addr} {xs ys : List V} {ns : List Int}
theorem r_ixS {k : Sk} {i : Nat} {v : V} (h : k.at K H a xs) (e : xs[i]? = some v) (q : Q v H) : rIxA K (.ref a) (.int (i : Nat)) H Q := by
  cases k with
  | l => exact r_ixL h (atI_nat e) q
  | t => exact r_ixT h (atI_nat e) q
theorem r_lenS {k : Sk} (h : k.at K H a xs) (q : Q (.int xs.length) H) : rLenA K [V.ref a] H Q := by
  cases k with
  | l => exact r_lenL h q
  | t => exact r_lenT h q
theorem Sk.exb {H H' : Hp} {a d : Addr} {xs : List V} (k : Sk) (e : ExB d H H') (n : a ≠ d) (h : k.at K H a xs) : k.at K H' a xs := by
  cases k with
  | l => exact sqL_exb e n h
  | t => exact sqT_exb e n h
theorem cut_map (lo hi : Option Int) : ∃ m n, cutV (ns.map V.int) lo hi = ((ns.drop m).take n).map V.int := ⟨_, _, by
  unfold cutV
  rw [List.map_take, List.map_drop]⟩
theorem r_slL {lo hi : Option Int} (h : SqL K H a xs) (q : ∀ p, H p = none → Q (.ref p) (upd H p (.lst (cutV xs lo hi)))) : rSlcA K (.ref a) lo hi H Q := .inl ⟨a, xs, rfl, h, q⟩
theorem r_catL (h1 : H a = some (.lst xs)) (h2 : H b = some (.lst ys)) (n : xs.length + ys.length ≤ sizeLine) (q : ∀ p, H p = none → Q (.ref p) (upd H p (.lst (xs ++ ys)))) : rAddA K (.ref a) (.ref b) H Q := .inr (.inl ⟨a, b, xs, ys, rfl, rfl, h1, h2, n, q⟩)
end
/-- either way an int -/
theorem r_split {σ : St} {H : Hp} {ta tb : TE} {Q : VK} {p : Prop} [Decidable p] (main : ∀ i : Int, Q (.int i) H) (h1 : p → (∀ i : Int, Q (.int i) H) → ta σ H Q) (h2 : ¬ p → (∀ i : Int, Q (.int i) H) → tb σ H Q) : if decide p = true then ta σ H Q else tb σ H Q :=
  r_D (fun c => h1 c main) (fun c => h2 c main)
/-! ### the dice of the laws -/
/-- the dice at d, rolled n times at most -/
def Dice (n : Nat) (H : Hp) (d : Addr) : Prop := ∃ x y z : Int, H d = some (.lst ([x, y, z].map V.int)) ∧ 0 ≤ x ∧ 0 ≤ y ∧ y < 2147480009 ∧ 0 ≤ z ∧ z ≤ n
theorem Dice.ex {n : Nat} {H H' : Hp} {d : Addr} (e : Ex H H') (h : Dice n H d) : Dice n H' d := by
  obtain ⟨x, y, z, h, r⟩ := h
  exact ⟨x, y, z, e _ _ h, r⟩
theorem Dice.ne {n : Nat} {H : Hp} {d p : Addr} (h : Dice n H d) (q : H p = none) : p ≠ d := fun e => by
  obtain ⟨x, y, z, h, r⟩ := h
  rw [← e, q] at h
  cases h
theorem Dice.exb {n : Nat} {H H' : Hp} {d p : Addr} (h : Dice n H d) (e : ExB d H H') (q : H' p = none) (h' : Dice (n + 1) H' d) : H p = none := by
  cases hp : H p with
  | none => rfl
  | some o =>
    have := e p o (h'.ne q) hp
    rw [q] at this; cases this
theorem Dice.mono {m n : Nat} {H : Hp} {d : Addr} (l : m ≤ n) (h : Dice m H d) : Dice n H d := by
  obtain ⟨x, y, z, h, h1, h2, h3, h4, h5⟩ := h
  exact ⟨x, y, z, h, h1, h2, h3, h4, by omega⟩
theorem IsTy.ex {K : PySem.W.Frag} {H H' : Hp} {v : V} {T : String} (e : Ex H H') (h : IsTy K H v T) : IsTy K H' v T := by
  obtain ⟨h, m⟩ := h
  refine ⟨?_, m⟩
  generalize ht : Value.type T = t at h
  cases h with
  | base b =>
    cases b with
    | non => exact .base .non
    | bl b => exact .base (.bl b)
    | int i => exact .base (.int i)
    | str x => exact .base (.str x)
    | flt x => exact .base (.flt x)
    | lst q => exact .base (.lst (e _ _ q))
    | frz q => exact .base (.frz (e _ _ q))
    | tup q => exact .base (.tup (e _ _ q))
    | dK q => exact .base (.dK (e _ _ q))
    | dT q => exact .base (.dT (e _ _ q))
    | ins => cases ht
  | byt b => exact .byt b
  | set q => exact .set (e _ _ q)
  | kList q c => exact .kList q c
  | kTuple q c => exact .kTuple q c
  | kDict q c => exact .kDict q c
  | fTuple q => exact .fTuple (e _ _ q)
  | fDict q => exact .fDict (e _ _ q)
/-- is a thing of type T one of c -/
def isT (T c : String) : Bool := T == c || (T == "bool" && c == "int")
theorem kit_all : ∀ T ∈ tyNames, ∀ c ∈ tyNames, kitB T c = some (isT T c) := by decide +kernel
theorem r_isiK {K : PySem.W.Frag} {H : Hp} {v : V} {T c : String} {Q : VK} (ty : IsTy K H v T) (hc : c ∈ tyNames) (q : Q (.bl (isT T c)) H) : rIsi K [v, .ty c] H Q := r_isi ty (kit_all T ty.2 c hc) q
end PB

/-! PK: the rules with the frame K named (a comprehension's own scope must not be in the reading). -/
namespace PB
open PySem PySem.Spec L2
open PyProof.Rows hiding St
section
variable {X : Cx} {K : PySem.W.Frag} {j : Nat}
theorem k_lt (eK : X.K = K) (hr : Room j X.A) : OpR X (compareOp .Lt) (rCmpA K (fun i j => decide (i < j)) fun d e => PySem.W.dataLt d e) := by subst eK; exact op_ltA hr
theorem k_gt (eK : X.K = K) (hr : Room j X.A) : OpR X (compareOp .Gt) (rCmpA K (fun i j => decide (j < i)) fun d e => PySem.W.dataLt e d) := by subst eK; exact op_gtA hr
theorem k_le (eK : X.K = K) (hr : Room j X.A) : OpR X (compareOp .LtE) (rCmpA K (fun i j => decide (i ≤ j)) fun d e => !PySem.W.dataLt e d) := by subst eK; exact op_leA hr
theorem k_ge (eK : X.K = K) (hr : Room j X.A) : OpR X (compareOp .GtE) (rCmpA K (fun i j => decide (j ≤ i)) fun d e => !PySem.W.dataLt d e) := by subst eK; exact op_geA hr
theorem k_eq (eK : X.K = K) (hr : Room j X.A) : OpR X (compareOp .Eq) (rEqA K) := by subst eK; exact op_eqA hr
theorem k_ne (eK : X.K = K) (hr : Room j X.A) : OpR X (compareOp .NotEq) (rNeA K) := by subst eK; exact op_neA hr
theorem k_in (eK : X.K = K) (hr : Room j X.A) : OpR X (compareOp .In) (rInA K) := by subst eK; exact op_inA hr
theorem k_nin (eK : X.K = K) (hr : Room j X.A) : OpR X (compareOp .NotIn) (rNinA K) := by subst eK; exact op_ninA hr
theorem k_add (eK : X.K = K) : OpR X (binaryOp .Add) (rAddA K) := by subst eK; exact op_addA
theorem k_mul (eK : X.K = K) : OpR X (binaryOp .Mult) (rMulA K) := by subst eK; exact op_mulA
theorem k_sum (eK : X.K = K) (hc : X.calm = true) : CallR X (.builtin "sum") (rSumA K) := by subst eK; exact cr_sumA hc
theorem k_sorted (eK : X.K = K) : CallR X (.builtin "sorted") (rSortedA K) := by subst eK; exact cr_sortedA
theorem k_len (eK : X.K = K) : CallR X (.builtin "len") (rLenA K) := by subst eK; exact cr_len
theorem k_isi (eK : X.K = K) : CallR X (.builtin "isinstance") (rIsi K) := by subst eK; exact call_isi
theorem k_all (eK : X.K = K) (hc : X.calm = true) : CallR X (.builtin "all") (rAll K) := by subst eK; exact cr_all hc
theorem k_any (eK : X.K = K) (hc : X.calm = true) : CallR X (.builtin "any") (rAny K) := by subst eK; exact cr_any hc
theorem k_tuple (eK : X.K = K) : CallR X (.type "tuple") (rTupA K) := by subst eK; exact cr_tuple
theorem k_list (eK : X.K = K) : CallR X (.type "list") (rListA K) := by subst eK; exact cr_list
theorem k_ix (eK : X.K = K) : IxR X (rIxA K) := by subst eK; exact ix_A
theorem k_sl (eK : X.K = K) : SlR X (rSlcA K) := by subst eK; exact sl_A
theorem k_get (eK : X.K = K) : PGet X (rIxL K) := by subst eK; exact get_list
def tTru (K : PySem.W.Frag) (ta : TE) : TT := fun σ H Q => ta σ H fun x H' => ∃ k, TruV K x H' k ∧ Q k H'
theorem k_truth {a : Expr} {ta : TE} (eK : X.K = K) (ha : PE X a ta) (he : ∀ whole, isTrue a X.env whole = (do let v ← whole; standAt a.pos; holding [v] (truthy v))) : PT X a (tTru K ta) := by
  subst eK
  exact pt_truth ha he
theorem k_seq {tg l : Expr} {tl : TE} (eK : X.K = K) (hl : PE X l tl) : PI X tg l (iSeq K tl) := by subst eK; exact pi_seq hl
theorem k_zip {e e2 : Expr} {ta : TA} {p pos tpos : Pos} {elts : List Expr} {kk : Nat} (eK : X.K = K) (hg : Gl X "zip") (hm : X.mg "zip" = none) (ha : PA X [e, e2] ta)
    (hs : starEach [e, e2] X.env = (false, eval e X.env) :: starEach [e2] X.env := by rfl) (hpl : (backTo pos (starEach [e2] X.env)).any (·.1) = false := by rfl) :
    PI X (.Tuple elts kk tpos) (.Call (.Name "zip" p) [e, e2] [] pos) (iZipM K ta) := by
  subst eK
  exact pi_zipM hg hm ha hs hpl
theorem k_enum {e : Expr} {ta : TA} {p pos tpos : Pos} {elts : List Expr} {kk : Nat} (eK : X.K = K) (cl : X.calm = true) (hm : X.mg "enumerate" = none) (ha : PA X [e] ta) (hg : Gl X "enumerate" := by rfl) (hs : starEach [e] X.env = [(false, eval e X.env)] := by rfl) :
    PI X (.Tuple elts kk tpos) (.Call (.Name "enumerate" p) [e] [] pos) (iEnumM K ta) := by
  subst eK
  exact pi_enumM cl hm ha hg hs
theorem k_two {i j kk : Nat} {x y : Str} {px py pos : Pos} (eK : X.K = K) (hN : X.N.Nodup) (hi : X.N[i]? = some x) (hj : X.N[j]? = some y) (lx : Loc X.env.scope x) (ly : Loc X.env.scope y)
    (fx : X.fn x = true ∨ X.env.scope.names.lookup x = some .local) (fy : X.fn y = true ∨ X.env.scope.names.lookup y = some .local) (hc : X.calm = true) : PG X (.Tuple [.Name x px, .Name y py] kk pos) (gTup K 2 (gCons (gName i) (gCons (gName j) gNil))) := by
  subst eK
  exact pg_two hc hN hi hj lx ly fx fy
theorem k_three {i j l kk : Nat} {x y z : Str} {px py pz pos : Pos} (eK : X.K = K) (hN : X.N.Nodup) (hi : X.N[i]? = some x) (hj : X.N[j]? = some y) (hl : X.N[l]? = some z) (lx : Loc X.env.scope x) (ly : Loc X.env.scope y) (lz : Loc X.env.scope z)
    (fx : X.fn x = true ∨ X.env.scope.names.lookup x = some .local) (fy : X.fn y = true ∨ X.env.scope.names.lookup y = some .local) (fz : X.fn z = true ∨ X.env.scope.names.lookup z = some .local) (hc : X.calm = true) : PG X (.Tuple [.Name x px, .Name y py, .Name z pz] kk pos) (gTup K 3 (gCons (gName i) (gCons (gName j) (gCons (gName l) gNil)))) := by
  subst eK
  exact pg_three hc hN hi hj hl lx ly lz fx fy fz
theorem k_tup {es : List Expr} {k n : Nat} {t : TGs} {pos : Pos} (eK : X.K = K) (hc : X.calm = true) (h : PGs X es t) (hn : (assignEach es X.env).length = n := by rfl) (hst : (assignEach es X.env).findIdx? (·.1) = none := by rfl) : PG X (.Tuple es k pos) (gTup K n t) := by
  subst eK
  exact pg_tup hc h hn hst
theorem k_append {o e : Expr} {to te : TE} {apos cpos : Pos} (eK : X.K = K) (ho : PE X o to) (ha : PE X e te) (hbase : attributeBase o "append" X.env (eval o X.env) = eval o X.env := by rfl)
    (hfew : ((backTo cpos (starEach [e] X.env)).all (fun x => !x.1) && (backToKw cpos (keywordEach [] X.env)).all (fun x => x.1.isSome) && decide ([e].length + ([] : List Keyword).length + (if ([] : List Keyword).isEmpty then 0 else 1) < 30)) = true := by rfl)
    (hline : (apos.endLine == cpos.line) = true := by rfl) (hs : starEach [e] X.env = (false, eval e X.env) :: starEach [] X.env := by rfl) :
    PE X (.Call (.Attribute o "append" apos) [e] [] cpos) (tBM K "list" rAppend to (tCons te tNil)) := by
  subst eK
  exact pe_bm PySem.F.plainAttrs_list PySem.F.slot_list_append PySem.F.type_list_append mt_append ho (pa_cons ha pa_nil hs) hbase hfew hline hs rfl
end
section
variable {K : PySem.W.Frag} {σ : St} {H : Hp} {Q : VK} {ta : TE} {a : Addr} {xs : List V} {v : V}
theorem r_tru {Q : Bool → Hp → Prop} (h : ta σ H fun x H' => ∃ k, TruV K x H' k ∧ Q k H') : tTru K ta σ H Q := h
/-- xs.append(v) -/
theorem r_bm {T : String} {r : V → List V → Hp → VK → Prop} {t : TA} (h : ta σ H fun x H1 => tyV K T x H1 ∧ t σ H1 fun xs H2 => r x xs H2 Q) : tBM K T r ta t σ H Q := h
theorem r_app (h : H a = some (.lst xs)) (n : xs.length < sizeLine) (q : Q .non (upd H a (.lst (xs ++ [v])))) : rAppend (.ref a) [v] H Q := ⟨a, xs, v, rfl, rfl, h, n, q⟩
end
end PB

/-! PD: rows of ints as data: ==, !=, in, <, sorted. -/
namespace PB
open PySem PySem.Spec L2
open PyProof.Rows hiding St
section
variable {K : PySem.W.Frag} {H H' : Hp} {a b : Addr} {ns ms : List Int} {Q : VK}
/-- ints as data -/
def dI (ns : List Int) : List PyData := ns.map .int
theorem dp_I : ∀ ns : List Int, DpAll K H (ns.map V.int) (dI ns)
  | [] => .nil
  | n :: ns => .cons (.int n) (dp_I ns)
theorem dp_t (h : SqT K H a (ns.map V.int)) : Dp K H (.ref a) (.tuple (dI ns)) := .tup h (dp_I ns)
theorem dp_l (h : SqL K H a (ns.map V.int)) : Dp K H (.ref a) (.list (dI ns)) := .lst h (dp_I ns)
theorem lay_I : ∀ ns : List Int, PyData.canLayAll0 (dI ns) = true
  | [] => by unfold dI; rw [List.map_nil]; simp only [PyData.canLayAll0]
  | n :: ns => by
    have := lay_I ns
    unfold dI at this ⊢
    rw [List.map_cons]
    simp only [PyData.canLayAll0, PyData.canLay0, this, Bool.and_self]
theorem dep_I : ∀ ns : List Int, PyData.depthAll (dI ns) = 0
  | [] => by unfold dI; rw [List.map_nil]; simp only [PyData.depthAll]
  | n :: ns => by
    have := dep_I ns
    unfold dI at this ⊢
    rw [List.map_cons]
    simp only [PyData.depthAll, PyData.depth, this, Nat.max_self]
theorem sh_of {d : PyData} (h : d.canLay0 = true) (e : d.depth ≤ 64) : SeqAt.shaped d = true := by
  unfold SeqAt.shaped
  rw [h, decide_eq_true e]; rfl
theorem dep_t : PyData.depth (.tuple (dI ns)) = 1 := by simp only [PyData.depth, dep_I]
theorem dep_l : PyData.depth (.list (dI ns)) = 1 := by simp only [PyData.depth, dep_I]
theorem sh_t : SeqAt.shaped (.tuple (dI ns)) = true := sh_of (by simp only [PyData.canLay0, lay_I]) (by rw [dep_t]; decide)
theorem sh_l : SeqAt.shaped (.list (dI ns)) = true := sh_of (by simp only [PyData.canLay0, lay_I]) (by rw [dep_l]; decide)
theorem ali_I : ∀ ns ms : List Int, PySem.W.alikeAll (dI ns) (dI ms) = true
  | [], [] => by unfold dI; simp only [List.map_nil, PySem.W.alikeAll]
  | [], _ :: _ => by unfold dI; simp only [List.map_nil, List.map_cons, PySem.W.alikeAll]
  | _ :: _, [] => by unfold dI; simp only [List.map_nil, List.map_cons, PySem.W.alikeAll]
  | n :: ns, m :: ms => by
    have := ali_I ns ms
    unfold dI at this ⊢
    simp only [List.map_cons, PySem.W.alikeAll, PySem.W.alike, this, Bool.and_self]
theorem eqv_I : ∀ ns ms : List Int, PyData.eqvAll (dI ns) (dI ms) = decide (ns = ms)
  | [], [] => by unfold dI; simp only [List.map_nil, PyData.eqvAll, decide_true]
  | [], _ :: _ => by unfold dI; simp only [List.map_nil, List.map_cons, PyData.eqvAll]; rfl
  | _ :: _, [] => by unfold dI; simp only [List.map_nil, List.map_cons, PyData.eqvAll]; rfl
  | n :: ns, m :: ms => by
    have := eqv_I ns ms
    unfold dI at this ⊢
    simp only [List.map_cons, PyData.eqvAll, PyData.eqv, this]
    by_cases h1 : n = m <;> by_cases h2 : ns = ms <;> simp [h1, h2]
theorem lt_I (ns ms : List Int) : PySem.W.dataLt (.list (dI ns)) (.list (dI ms)) = decide (ns < ms) := by
  rw [PySem.W.dataLt_list]
  exact PySem.W.dataLt_ints ns ms
theorem lt_T (ns ms : List Int) : PySem.W.dataLt (.tuple (dI ns)) (.tuple (dI ms)) = decide (ns < ms) := by
  rw [PySem.W.dataLt_tuple]
  exact PySem.W.dataLt_ints ns ms
/-- two lists of ints compared -/
theorem r_gtLL (h1 : SqL K H a (ns.map V.int)) (h2 : SqL K H b (ms.map V.int)) (q : Q (.bl (decide (ms < ns))) H) : rCmpA K (fun i j => decide (j < i)) (fun d e => PySem.W.dataLt e d) (.ref a) (.ref b) H Q :=
  .inr ⟨_, _, dp_l h1, dp_l h2, by simp only [PySem.W.alike]; exact ali_I ns ms, (fun e => nomatch e), by rw [dep_l, dep_l]; decide, by rw [← lt_I] at q; exact q⟩
theorem r_ltTT (h1 : SqT K H a (ns.map V.int)) (h2 : SqT K H b (ms.map V.int)) (q : Q (.bl (decide (ns < ms))) H) : rCmpA K (fun i j => decide (i < j)) (fun d e => PySem.W.dataLt d e) (.ref a) (.ref b) H Q :=
  .inr ⟨_, _, dp_t h1, dp_t h2, by simp only [PySem.W.alike]; exact ali_I ns ms, (fun e => nomatch e), by rw [dep_t, dep_t]; decide, by rw [← lt_T] at q; exact q⟩
theorem r_eqTT (h1 : SqT K H a (ns.map V.int)) (h2 : SqT K H b (ms.map V.int)) (q : Q (.bl (decide (ns = ms))) H) : rEqA K (.ref a) (.ref b) H Q :=
  .inr ⟨_, _, dp_t h1, dp_t h2, sh_t, sh_t, by simp only [PyData.eqv, eqv_I]; exact q⟩
theorem r_neTT (h1 : SqT K H a (ns.map V.int)) (h2 : SqT K H b (ms.map V.int)) (q : Q (.bl (!decide (ns = ms))) H) : rNeA K (.ref a) (.ref b) H Q :=
  .inr ⟨_, _, dp_t h1, dp_t h2, sh_t, sh_t, by simp only [PyData.eqv, eqv_I]; exact q⟩
theorem r_eqLL (h1 : SqL K H a (ns.map V.int)) (h2 : SqL K H b (ms.map V.int)) (q : Q (.bl (decide (ns = ms))) H) : rEqA K (.ref a) (.ref b) H Q :=
  .inr ⟨_, _, dp_l h1, dp_l h2, sh_l, sh_l, by simp only [PyData.eqv, eqv_I]; exact q⟩
theorem r_neLL (h1 : SqL K H a (ns.map V.int)) (h2 : SqL K H b (ms.map V.int)) (q : Q (.bl (!decide (ns = ms))) H) : rNeA K (.ref a) (.ref b) H Q :=
  .inr ⟨_, _, dp_l h1, dp_l h2, sh_l, sh_l, by simp only [PyData.eqv, eqv_I]; exact q⟩
theorem r_sortedL {H : Hp} (h : SqL K H a (ns.map V.int)) (q : ∀ (ns' : List Int) (p : Addr), ns'.Perm ns → ns'.Pairwise (· ≤ ·) → H p = none → Q (.ref p) (upd H p (.lst (ns'.map V.int)))) : rSortedA K [V.ref a] H Q := .inl ⟨a, ns, rfl, h, q⟩
theorem r_sortedT {H : Hp} (h : SqT K H a (ns.map V.int)) (q : ∀ (ns' : List Int) (p : Addr), ns'.Perm ns → ns'.Pairwise (· ≤ ·) → H p = none → Q (.ref p) (upd H p (.lst (ns'.map V.int)))) : rSortedA K [V.ref a] H Q := .inr ⟨a, ns, rfl, h, q⟩
/-! ### rows: values that are tuples of ints -/
def Row (K : PySem.W.Frag) (H : Hp) (v : V) (r : List Int) : Prop := ∃ p, v = .ref p ∧ SqT K H p (r.map V.int)
/-- these values are these rows -/
inductive Rws (K : PySem.W.Frag) (H : Hp) : List V → List (List Int) → Prop
  | nil : Rws K H [] []
  | cons {v : V} {vs : List V} {r : List Int} {rs : List (List Int)} : Row K H v r → Rws K H vs rs → Rws K H (v :: vs) (r :: rs)
theorem Row.ex {v : V} {r : List Int} (e : Ex H H') (h : Row K H v r) : Row K H' v r := by
  obtain ⟨p, rfl, h⟩ := h
  exact ⟨p, rfl, sqT_ex e h⟩
theorem Rws.ex {vs : List V} {rs : List (List Int)} (e : Ex H H') (h : Rws K H vs rs) : Rws K H' vs rs := by
  induction h with
  | nil => exact .nil
  | cons h _ ih => exact .cons (h.ex e) ih
/-- the rows stay where another object changes -/
theorem Row.put {v : V} {r : List Int} {d : Addr} {xs : List V} {o : HO} (hd : H d = some (.lst xs)) (h : Row K H v r) : Row K (upd H d o) v r := by
  obtain ⟨p, rfl, h⟩ := h
  refine ⟨p, rfl, ?_⟩
  rcases h with (h | ⟨o', h⟩) | h
  · exact .inl (.inl ((upd_ne (fun e => by rw [e, hd] at h; cases h)).trans h))
  · exact .inl (.inr ⟨o', (upd_ne (fun e => by rw [e, hd] at h; cases h)).trans h⟩)
  · exact .inr h
theorem Rws.put {vs : List V} {rs : List (List Int)} {d : Addr} {xs : List V} {o : HO} (hd : H d = some (.lst xs)) (h : Rws K H vs rs) : Rws K (upd H d o) vs rs := by
  induction h with
  | nil => exact .nil
  | cons h _ ih => exact .cons (h.put hd) ih
theorem Rws.snoc {vs : List V} {rs : List (List Int)} {v : V} {r : List Int} (h : Rws K H vs rs) (k : Row K H v r) : Rws K H (vs ++ [v]) (rs ++ [r]) := by
  induction h with
  | nil => exact .cons k .nil
  | cons h _ ih => exact .cons h ih
theorem Rws.length {vs : List V} {rs : List (List Int)} (h : Rws K H vs rs) : vs.length = rs.length := by
  induction h with
  | nil => rfl
  | cons _ _ ih => rw [List.length_cons, List.length_cons, ih]
theorem Rws.get {vs : List V} {rs : List (List Int)} (h : Rws K H vs rs) : ∀ {i : Nat} {v : V}, vs[i]? = some v → ∃ r, rs[i]? = some r ∧ Row K H v r := by
  induction h with
  | nil => intro i v e; cases e
  | cons h _ ih =>
    intro i v e
    cases i with
    | zero => cases e; exact ⟨_, rfl, h⟩
    | succ i => exact ih (by simpa using e)
theorem Rws.dp {vs : List V} {rs : List (List Int)} (h : Rws K H vs rs) : DpAll K H vs (rs.map fun r => .tuple (dI r)) := by
  induction h with
  | nil => exact .nil
  | cons h _ ih =>
    obtain ⟨p, rfl, h⟩ := h
    exact .cons (dp_t h) ih
theorem lay_R : ∀ rs : List (List Int), PyData.canLayAll0 (rs.map fun r => .tuple (dI r)) = true
  | [] => by rw [List.map_nil]; simp only [PyData.canLayAll0]
  | r :: rs => by rw [List.map_cons]; simp only [PyData.canLayAll0, PyData.canLay0, lay_R rs, lay_I, Bool.and_self]
theorem dep_R : ∀ rs : List (List Int), PyData.depthAll (rs.map fun r => .tuple (dI r)) ≤ 1
  | [] => by rw [List.map_nil]; simp only [PyData.depthAll]; decide
  | r :: rs => by
    have := dep_R rs
    rw [List.map_cons]
    simp only [PyData.depthAll, PyData.depth, dep_I]
    omega
theorem sh_R {rs : List (List Int)} : SeqAt.shaped (.list (rs.map fun r => .tuple (dI r))) = true :=
  sh_of (by simp only [PyData.canLay0, lay_R]) (by simp only [PyData.depth]; have := dep_R rs; omega)
theorem any_R (r : List Int) : ∀ rs : List (List Int), ((rs.map fun r => PyData.tuple (dI r)).any fun z => PyData.eqv z (.tuple (dI r))) = decide (r ∈ rs)
  | [] => rfl
  | s :: rs => by
    rw [List.map_cons, List.any_cons, any_R r rs]
    simp only [PyData.eqv, eqv_I]
    by_cases h1 : s = r
    · subst h1; simp
    · by_cases h2 : r ∈ rs
      · simp [h2]
      · have h3 : ¬ r = s := fun e => h1 e.symm
        simp [h1, h2, h3]
/-- a row not in a list of rows -/
theorem r_ninR {vs : List V} {rs : List (List Int)} (h1 : SqT K H a (ns.map V.int)) (h2 : SqL K H b vs) (h3 : Rws K H vs rs) (q : Q (.bl (!decide (ns ∈ rs))) H) : rNinA K (.ref a) (.ref b) H Q :=
  .inr ⟨_, _, dp_t h1, .lst h2 h3.dp, sh_t, sh_R, by rw [any_R]; exact q⟩
theorem r_inR {vs : List V} {rs : List (List Int)} (h1 : SqT K H a (ns.map V.int)) (h2 : SqL K H b vs) (h3 : Rws K H vs rs) (q : Q (.bl (decide (ns ∈ rs))) H) : rInA K (.ref a) (.ref b) H Q :=
  .inr ⟨_, _, dp_t h1, .lst h2 h3.dp, sh_t, sh_R, by rw [any_R]; exact q⟩
/-- two lists without an item -/
theorem r_ne00 (h1 : SqL K H a []) (h2 : SqL K H b []) (q : Q (.bl false) H) : rNeA K (.ref a) (.ref b) H Q := r_neLL (ns := []) (ms := []) h1 h2 q
theorem r_eq00 (h1 : SqL K H a []) (h2 : SqL K H b []) (q : Q (.bl true) H) : rEqA K (.ref a) (.ref b) H Q := r_eqLL (ns := []) (ms := []) h1 h2 q
/-- a tuple and a tuple of one or more -/
theorem r_catT {xs ys : List V} (h1 : SqT K H a xs) (h2 : SqT K H b ys) (n : xs.length + ys.length ≤ sizeLine) (q : ∀ p H', Ex H H' → SqT K H' p (xs ++ ys) → Q (.ref p) H') : rAddA K (.ref a) (.ref b) H Q :=
  .inr (.inr (.inl ⟨a, b, xs, ys, rfl, rfl, h1, h2, n, fun e => by subst e; exact q b H (Ex.refl H) h2, fun _ e => by subst e; rw [List.append_nil] at q; exact q a H (Ex.refl H) h1, fun _ _ p hp => q p _ (Ex.new hp) sqT_new⟩))
theorem r_slT {xs : List V} {lo hi : Option Int} (h : SqT K H a xs) (q : ∀ p H', Ex H H' → SqT K H' p (cutV xs lo hi) → Q (.ref p) H') : rSlcA K (.ref a) lo hi H Q := by
  refine .inr (.inl ⟨a, xs, rfl, h, fun ⟨e1, e2⟩ => q a H (Ex.refl H) ?_, fun _ p hp => q p _ (Ex.new hp) sqT_new⟩)
  have e : cutV xs lo hi = xs := by
    unfold cutV
    rw [e1, e2]
    simp
  rw [e]; exact h
end
/-- rows that pass a test -/
theorem c_rows {σ : St} {H : Hp} {Q : VK} {K : PySem.W.Frag} {tt : TT} {te : TE} {vs : List Nat} {a : Addr} {ws : List V} {rs : List (List Int)} {j : Nat} (h : SqL K H a ws) (hr : Rws K H ws rs) (f : List Int → Bool) (hn : ws.length < 16000000) (hw : ∀ x, wipe ((wipe σ vs).set j (some x)) vs = wipe σ vs)
    (turn : ∀ v r H1 (q : VK) (N : Hp → Prop), r ∈ rs → Ex H H1 → Row K H1 v r → (f r = true → ∀ H4, Ex H1 H4 → q v H4) → (f r = false → ∀ H4, Ex H1 H4 → N H4) → tt ((wipe σ vs).set j (some v)) H1 fun b H4 => if b = true then te ((wipe σ vs).set j (some v)) H4 q else N H4)
    (done : ∀ L H' us, H L = none → Ex H H' → H' L = some (.lst us) → Rws K H' us (rs.filter f) → Q (.ref L) H') : sQ K (CQ (gName j) tt te vs σ Q) (.ref a) H := by
  refine s_L h (c_it walk_list hn (fun H' e => sqL_ex e h) (fun i acc H' => Rws K H' acc ((rs.take i).filter f)) (fun _ _ => by rw [List.take_zero, List.filter_nil]; exact .nil) (fun L i acc H1 u u' hL _ p => p.put hL) ?_ ?_)
  · rintro i x acc H1 H2 q N hi e1 p ⟨rfl, hx⟩ hq hN
    obtain ⟨r, er, rw'⟩ := hr.get hx
    have tk : rs.take (i + 1) = rs.take i ++ [r] := by rw [List.take_add_one, er]; rfl
    refine ⟨hw x, turn x r H2 q N (List.mem_of_getElem? er) e1 (rw'.ex e1) (fun fy H4 e4 => hq x H4 e4 ?_) fun fn H4 e4 => hN H4 e4 ?_⟩
    · rw [tk, List.filter_append, List.filter_cons_of_pos fy, List.filter_nil]
      exact (p.ex e4).snoc ((rw'.ex e1).ex e4)
    · rw [tk, List.filter_append, List.filter_cons_of_neg (by rw [fn]; decide), List.filter_nil, List.append_nil]
      exact p.ex e4
  · intro L acc H' h1 h2 h3 _ h5
    rw [List.take_of_length_le (Nat.le_of_eq hr.length.symm)] at h5
    exact done L H' acc h1 h2 h3 h5
/-- a row of rolls -/
theorem c_dice {σ : St} {H : Hp} {Q : VK} {tt : TT} {te : TE} {vs : List Nat} {j n m : Nat} {lo t : Int} {d : Addr} (hd : Dice n H d) (hm : m < 16000000) (hw : ∀ x, wipe ((wipe σ vs).set j (some x)) vs = wipe σ vs)
    (turn : ∀ (i : Nat) H1 (q : VK) (N : Hp → Prop), i < m → ExB d H H1 → Dice (n + i) H1 d → (∀ r H4, 0 ≤ r → r < t → ExB d H1 H4 → Dice (n + i + 1) H4 d → q (.int r) H4) →
      tt ((wipe σ vs).set j (some (.int (lo + i)))) H1 fun b H4 => if b = true then te ((wipe σ vs).set j (some (.int (lo + i)))) H4 q else N H4)
    (done : ∀ L H' (ns : List Int), H L = none → L ≠ d → ExB d H H' → H' L = some (.lst (ns.map V.int)) → ns.length = m → (∀ x ∈ ns, 0 ≤ x ∧ x < t) → Dice (n + m) H' d → Q (.ref L) H') : CQ (gName j) tt te vs σ Q (Itr lo m) H := by
  intro L hL
  have ne : L ≠ d := hd.ne hL
  refine lc_it walk_range (fun i H' => ∃ ns : List Int, ExB d H H' ∧ H' L = some (.lst (ns.map V.int)) ∧ ns.length = i ∧ (∀ x ∈ ns, 0 ≤ x ∧ x < t) ∧ Dice (n + i) H' d) ⟨[], ExB.of (Ex.new hL), upd_same, rfl, (fun x hx => nomatch hx), hd.ex (Ex.new hL)⟩ (fun _ _ _ _ => trivial) ?_ ?_
  · rintro i x H1 H2 hi ⟨ns, e1, e2, e3, e4, e5⟩ ⟨rfl, rfl⟩
    refine ⟨hw _, turn i H2 _ _ hi e1 e5 fun r H4 r0 r1 e6 e7 => ?_⟩
    have hL4 : H4 L = some (.lst (ns.map V.int)) := e6 _ _ ne e2
    refine ⟨ns.map V.int, hL4, by rw [List.length_map]; exact Nat.lt_trans (by omega : ns.length < 16000000) (by decide), ns ++ [r], ?_, by rw [upd_same, List.map_append]; rfl, by rw [List.length_append, e3]; rfl, ?_, ?_⟩
    · intro b o hb ho
      have hne : b ≠ L := fun z => by rw [z, hL] at ho; cases ho
      exact (upd_ne hne).trans (e6 _ _ hb (e1 b o hb ho))
    · intro y hy
      rw [List.mem_append, List.mem_singleton] at hy
      rcases hy with hy | rfl
      · exact e4 y hy
      · exact ⟨r0, r1⟩
    · obtain ⟨x, y, z, h, r⟩ := e7
      exact ⟨x, y, z, (upd_ne (Ne.symm ne)).trans h, r⟩
  · rintro H' ⟨ns, e1, e2, e3, e4, e5⟩
    exact done L H' ns hL ne e1 e2 e3 e4 e5
theorem cut_lo {xs : List V} {i : Nat} : cutV xs none (some (i : Int)) = xs.take i := by
  unfold cutV
  rw [HT.sIx_none, HT.sIx_nat, Nat.sub_zero, List.drop_zero, List.take_eq_take_iff]
  omega
theorem cut_hi {xs : List V} {i : Nat} : cutV xs (some (i : Int)) none = xs.drop i := by
  unfold cutV
  rw [HT.sIx_none, HT.sIx_nat]
  by_cases h : i ≤ xs.length
  · rw [Nat.min_eq_left h, List.take_of_length_le (by rw [List.length_drop]; exact Nat.le_refl _)]
  · rw [Nat.min_eq_right (by omega), List.drop_eq_nil_of_le (Nat.le_refl _), List.drop_eq_nil_of_le (by omega), List.take_nil]
theorem Dice.fresh {n : Nat} {H : Hp} {d p : Addr} {o : HO} (h : Dice n H d) (hp : H p = none) : Dice n (upd H p o) d := h.ex (Ex.new hp)
end PB

/-! PG: defs that need to know that no repr is under way: calls, the law's own call, repr of data. -/
namespace PB
open PySem PySem.Spec L2
open PyProof.Rows hiding St
/-- as FnOk, where no repr is under way -/
structure FnG (P : Program) (w : World) (K : PySem.W.Frag) (mg : Str → Option Value) (base : Heap) (k : Nat) (f : Addr) (fd : FuncData) (ps : List Str) (sp : Sp) : Prop where
  len : ∀ vs H Q E, sp vs H Q E → vs.length = ps.length
  run : ∀ (A : Around) (outer : List Env) (s : Shared) (H : Hp) (args : Args) (us : List Value) (vs : List V) (Q : VK) (E : XK), A.guards = some [] → Room k A → Env0 P w K mg base A outer s H → BindsTo s fd args (ps.zip us) → Vals vs us → sp vs H Q E →
    codeAny (model P w) A (.call (.ref f) args) (CR (L2.CX P w) outer P w H s Q E) s
def CalG (P : Program) (w : World) (K : PySem.W.Frag) (mg : Str → Option Value) (base : Heap) (k : Nat) (x : Str) (ps : List Str) (sp : Sp) : Prop :=
  ∃ f fd, mg x = some (.ref f) ∧ PySem.W.keepIn K (.ref f) = true ∧ FnG P w K mg base k f fd ps sp ∧ Binds K fd ps []
theorem pe_fG {X : Cx} {k j : Nat} {x : Str} {ps : List Str} {sp : Sp} {E : XK} {p pos : Pos} {e : Expr} {es : List Expr} {t : TA} (c : CalG X.prog X.w X.K X.mg X.base k x ps sp) (gd : X.A.guards = some []) (hr : Room j X.A) (hk : k ≤ j) (hx : Passes (L2.CX X.prog X.w) X E) (ha : PA X (e :: es) t)
    (hg : Gl X x := by rfl) (hdb : (x == ("__debug__" : Str)) = false := by decide) (he : starEach (e :: es) X.env = (false, eval e X.env) :: starEach es X.env := by rfl) (hpl : (backTo pos (starEach es X.env)).any (·.1) = false := by rfl) :
    PE X (.Call (.Name x p) (e :: es) [] pos) (tCall sp [] E t) := by
  obtain ⟨f, fd, h1, h2, F, b⟩ := c
  refine ⟨fun pins s σ H Q I h => wpAny_Call_Name_kw (ld_glob I hg h1 ?_ hdb)⟩
  refine PySem.W.callWith_K (h₀ := X.base) I.ok.mod.kin h2 (thn (ha.run pos pins s σ H _ I h) fun us s1 ⟨vs, H1, I1, r, q⟩ => ⟨I1.kIn, ?_⟩) he hpl
  have q2 : sp (vs ++ []) H1 Q E := q
  rw [List.append_nil] at q2
  have hl : (us ++ []).length = ps.length := by
    rw [List.append_nil, ← r.length]
    exact F.len _ _ _ _ q2
  have hb := b s1 us I1.kIn hl
  rw [List.append_nil] at hb
  refine wpAny_call (codeAny_mono (F.run X.A X.stack s1 H1 ⟨us, []⟩ us vs Q E gd (hr.mono hk) I1.env0 hb r q2) fun z s' hq => ?_)
  match z, hq with
  | .error er, hq => exact hx pins σ H1 s1 er s' I1 hq
  | .ok (.ret u), hq => exact I1.after hq
  | .ok .next, hq => exact hq.elim
  | .ok .brk, hq => exact hq.elim
  | .ok .cont, hq => exact hq.elim
/-- such a def's body -/
theorem fnG_of {P : Program} {w : World} {K : PySem.W.Frag} {mg : Str → Option Value} {base : Heap} {x : Str} {a : Arguments} {b : List Stmt} {sc : Scope} {f : Addr} {fd : FuncData} {N ps : List Str} {k : Nat} {sp : Sp} (F : FunD K x x a b sc [] [] f fd) (S : FnScope N ps sc)
    (len : ∀ vs H Q E, sp vs H Q E → vs.length = ps.length)
    (hbody : ∀ (cdv : Value) (A : Around) (outer : List Env) (s : Shared) (H : Hp) (vs : List V) (Q : VK) (E : XK), (A.deeper (envOfC x sc s.heap.objs.size f cdv)).guards = some [] → Room k (A.deeper (envOfC x sc s.heap.objs.size f cdv)) → sp vs H Q E →
      ∃ t, PSs (cxOf (L2.CX P w) P w K mg base N x sc f cdv A outer s H E) b t ∧ t { nx := fun _ H' => Q .non H', rt := Q } (start N vs) H) : FnG P w K mg base (k + 1) f fd ps sp := by
  obtain ⟨oc, od, dV, kV, doc, pm, an, cdv, ct, osl, rfl, lk, hcd, _, _⟩ := F.ex
  exact ⟨len, fun A outer s H args us vs Q E hg hr e0 hb r h => LamX.run_ofS lk hcd S hr e0 hb r (len _ _ _ _ h) fun hr' => hbody cdv A outer s H vs Q E hg hr' h⟩
section
variable {P : Program} {w : World} {fa : List He.Fa} {fn : List He.DefD} {K : PySem.W.Frag} {mg : Str → Option Value} {base : Heap}
theorem Ct.calG (C : Ct fa fn K mg base) (i j : Nat) {x : Str} {a : Arguments} {b : List Stmt} {sc : Scope} (hd : fn[i]? = some ⟨(x, none), x, x, a, b, sc, [], []⟩) (hj : fa[j]? = some (.glo x)) {N ps : List Str} {k : Nat} {sp : Sp} (S : FnScope N ps sc)
    (hb : ∀ (kV doc pm : Value) (an : Option Addr) (cdv ct : Value) (us : List Value), us.length = ps.length → bindArgs (PySem.W.fnOf x x a b sc .none kV doc pm an cdv ct) ⟨us, []⟩ = pure (ps.zip us))
    (len : ∀ vs H Q E, sp vs H Q E → vs.length = ps.length)
    (hbody : ∀ (f : Addr) (cdv : Value) (A : Around) (outer : List Env) (s : Shared) (H : Hp) (vs : List V) (Q : VK) (E : XK), (A.deeper (envOfC x sc s.heap.objs.size f cdv)).guards = some [] → Room k (A.deeper (envOfC x sc s.heap.objs.size f cdv)) → sp vs H Q E →
      ∃ t, PSs (cxOf (L2.CX P w) P w K mg base N x sc f cdv A outer s H E) b t ∧ t { nx := fun _ H' => Q .non H', rt := Q } (start N vs) H) : CalG P w K mg base (k + 1) x ps sp := by
  obtain ⟨fd, F⟩ := C.says.def_ i hd
  exact ⟨_, fd, He.glo_ok C.kin C.glob (C.says.fact j hj), F.kp, fnG_of F S len fun cdv A outer s H vs Q E hg hr h => hbody _ cdv A outer s H vs Q E hg hr h, FunD.bindsN F hb⟩
end
/-! ### repr -/
/-- the text of data -/
def rRepr (K : PySem.W.Frag) : List V → Hp → VK → Prop := fun vs H Q => ∃ a d, vs = [.ref a] ∧ Dp K H (.ref a) d ∧ d.showable = true ∧ d.hasDict = false ∧ d.shown.length ≤ sizeLine ∧ d.depth ≤ 60 ∧ Q (.str d.shown) H
theorem k_repr {X : Cx} {K : PySem.W.Frag} {j : Nat} (eK : X.K = K) (hr : Room j X.A) (gd : X.A.guards = some []) : CallR X (.builtin "repr") (rRepr K) := by
  subst eK
  intro pins s σ H vs us Q I r h
  obtain ⟨a, d, rfl, hd, sh, nd, hz, dp, q⟩ := h
  rw [Vals.ref1 r]
  obtain ⟨as, rd⟩ := Dp.reads I d (.ref a) (.ref a) hd rfl
  have hu : X.A.units + (d.depth + 1) < cLine := by
    have := hr.un
    omega
  refine repr_of_reads' rd sh (fun e => by rw [nd] at e; cases e) gd hu (fun _ _ z => z) (fun h' u tk k => ⟨.str d.shown, H, I.kept k, ⟨u, rfl⟩, q⟩) hz
/-! ### the law called: nothing stands but the script and the tables -/
section
variable {P : Program} {w : World} {K : PySem.W.Frag} {mg mb : Str → Option Value} {cs : List (Addr × Addr)} {st : Shared}
/-- the abstract heap with nothing but the tables -/
def tabH (cs : List (Addr × Addr)) : Hp := fun b => if b ∈ cs.map (·.2) then some (.tbl #[]) else none
theorem tabH_in {p : Addr × Addr} (h : p ∈ cs) : tabH cs p.2 = some (.tbl #[]) := if_pos (List.mem_map.mpr ⟨p, h, rfl⟩)
theorem tabH_out {b : Addr} (h : b ∉ cs.map (·.2)) : tabH cs b = none := if_neg h
/-- from a heap in which lists and empty tables alone may be tracked, none of them of K -/
theorem law_from {H : Hp} {fa a : Addr} {k : Nat} {fd : FuncData} {x : Str} {sp : Sp} {ns : List Int} (kin : K.In st.heap) (gn : st.heap.Ns mainGlobals mg) (bn : st.heap.Ns builtinsNs mb) (bb : ∀ y : Str, y ≠ "__name__" → mb y = bootBuiltins y) (lim : st.heap.NoLimit) (gens : st.gens = #[])
    (emp : ∀ p ∈ cs, st.heap.get? p.2 = some { cls := .none, data := .fields #[] }) (cod : ∀ p ∈ cs, PySem.W.CodeHd st.heap p.1 p.2)
    (bm : ∃ (m : Addr) (o : Obj), mg "__builtins__" = some (.ref m) ∧ m ≠ builtinsNs ∧ st.heap.get? m = some o ∧ o.cls = .type "module" ∧ o.dict = some builtinsNs ∧ o.data = .plain)
    (tH : ∀ p ∈ cs, H p.2 = some (.tbl #[])) (kinds : ∀ b, H b = none ∨ b ∈ cs.map (·.2) ∨ ∃ o xs, H b = some (.frz o (.lst xs))) (hok : HOk P w H st.heap)
    (seen : ∀ b o, st.heap.get? b = some o → H b ≠ none → (∃ vs n, o.data = .seq vs n) ∨ o.data = .fields #[]) (outK : ∀ b, H b ≠ none → K.lookup b = none)
    (room : Room k callerA) (F : ∀ base : Heap, K.In base → base.Ns mainGlobals mg → (∀ p ∈ cs, LamX.TabB base mg p.1 p.2) → FnG P w K mg base k fa fd [x] sp) (bind : ∀ (s : Shared) (u : Value), BindsTo s fd ⟨[u], []⟩ [(x, u)])
    (h : sp [.ref a] H (fun v _ => v = .bl true) fun _ _ _ => False) :
    codeAny (model P w) callerA (.call (.ref fa) ⟨[.ref a], []⟩) (fun r s' => r = .ok (.ret (.bool true)) ∧ OldK st.heap s'.heap ∧ s'.os = st.os ∧ AllBare s'.gens) st := by
  have free : ∀ {b : Addr} {o : Obj}, st.heap.get? b = some o → (∀ vs n, o.data ≠ .seq vs n) → o.data ≠ .fields #[] → H b = none := fun {b o} e n1 n2 => by
    refine Classical.byContradiction fun c => ?_
    rcases seen b o e c with ⟨vs, n, q⟩ | q
    · exact n1 vs n q
    · exact n2 q
  have sees : ∀ {b : Addr} {o : Obj}, st.heap.get? b = some o → (∀ vs n, o.data ≠ .seq vs n) → o.data ≠ .fields #[] → (hidT st.heap H).get? b = some o := fun e n1 n2 => hidT_get e (free e n1 n2)
  have names : ∀ {b : Addr} {m : Str → Option Value}, st.heap.Ns b m → (hidT st.heap H).Ns b m := fun ⟨o, es, ep, e, d, r⟩ =>
    ⟨o, es, ep, sees e (fun _ _ q => by rw [d] at q; cases q) (fun q => by rw [d] at q; cases q), d, r⟩
  have kin2 : K.In (hidT st.heap H) := fun b o e => hidT_get (kin b o e) (Classical.byContradiction fun c => by rw [outK b c] at e; cases e)
  have modul : L2.Mod K mg (hidT st.heap H) := ⟨kin2, names gn, ⟨mb, names bn, bb⟩, let ⟨mc, l1, l2⟩ := lim; ⟨mc, names l1, l2⟩⟩
  have tabs : ∀ p ∈ cs, LamX.TabB (hidT st.heap H) mg p.1 p.2 := fun p hp => by
    have ep := emp p hp
    have nG : ∀ {c : Addr} {m : Str → Option Value}, st.heap.Ns c m → ∀ {o : Obj}, st.heap.get? c = some o → ∃ es n, o.data = .dict es n := fun {c m} ns {o'} e' => by
      obtain ⟨o, es, n, e, d, _⟩ := ns
      rw [e] at e'
      cases e'
      exact ⟨es, n, d⟩
    refine ⟨?_, ?_, fun z => ?_⟩
    · obtain ⟨o, us, file, tf, flags, tg, inF, text, tt, e1, r1, r2, r3, rest⟩ := cod p hp
      refine ⟨o, us, file, tf, flags, tg, inF, text, tt, sees e1 (fun _ _ q => by rw [r2] at q; cases q) (fun q => ?_), r1, r2, r3, rest⟩
      rw [r2] at q
      cases q
      simp at r3
    · obtain ⟨m, o, b1, b2, b3, b4, b5, b6⟩ := bm
      refine ⟨m, o, b1, b2, fun q => ?_, fun q => ?_, sees b3 (fun _ _ q => by rw [b6] at q; cases q) (fun q => by rw [b6] at q; cases q), b4, b5, b6⟩
      · obtain ⟨es, n, d⟩ := nG gn (q ▸ b3)
        rw [b6] at d
        cases d
      · rw [q, ep] at b3
        cases b3
        cases b6
    · obtain ⟨es, n, d⟩ := nG gn (z ▸ ep)
      cases d
  have start : Env0 P w K mg (hidT st.heap H) callerA [] st H := ⟨rfl, modul, fun _ _ e => of_hidT e, Nat.le_of_eq (hidT_size _ _), trivial, fun b q => (by cases q), hok, .of_eq gens⟩
  refine codeAny_mono ((F _ kin2 (names gn) tabs).run callerA [] st H ⟨[.ref a], []⟩ [.ref a] [.ref a] _ _ rfl room start (bind st (.ref a)) (.cons rfl .nil) h) fun r s' q => ?_
  match r, q with
  | .error e, q => exact (by obtain ⟨_, _, _, _, _, _, _, _, _, _, _, _, z⟩ := q; exact z.elim)
  | .ok .next, q => exact q.elim
  | .ok .brk, q => exact q.elim
  | .ok .cont, q => exact q.elim
  | .ok (.ret u), q =>
    obtain ⟨v, H', os, bare, un, hok', rv, ev⟩ := q
    obtain rfl : v = .bl true := ev
    obtain rfl : u = Value.bool true := rv
    have same : ∀ b o, b ∉ cs.map (·.2) → st.heap.get? b = some o → s'.heap.get? b = some o := fun b o nb e => by
      rcases kinds b with z | z | ⟨ob, xs, z⟩
      · exact un.keep b o e z (fun y => by cases y) (fun y => by cases y)
      · exact absurd z nb
      · have e1 := (hok b _ z).1
        have e2 := (hok' b _ (un.frzs b ob _ z)).1
        rw [e] at e1
        rw [e2, e1]
    have more : ∀ p ∈ cs, ∃ us : Array Value, s'.heap.get? p.2 = some { cls := .none, data := .fields us } := fun p hp => by
      obtain ⟨us, z⟩ := un.tbls p.2 #[] (tH p hp)
      exact ⟨_, hok' p.2 _ z⟩
    refine ⟨rfl, ⟨fun b o e => ?_, fun b o e => ?_⟩, os, bare⟩
    · by_cases hb : b ∈ cs.map (·.2)
      · obtain ⟨p, hp, rfl⟩ := List.mem_map.mp hb
        obtain ⟨us, hu⟩ := more p hp
        rw [emp p hp] at e
        cases e
        exact .inr (.inl ⟨((cod p hp).tab (emp p hp)).isCodeTable, rfl, #[], us, rfl, by rw [Array.empty_append]; exact hu⟩)
      · exact .inl (same b o hb e)
    · by_cases hb : b ∈ cs.map (·.2)
      · obtain ⟨p, hp, rfl⟩ := List.mem_map.mp hb
        obtain ⟨us, hu⟩ := more p hp
        exact ⟨_, hu⟩
      · exact ⟨o, same b o hb e⟩
/-- the law called with its script -/
theorem law_with {fa a : Addr} {k : Nat} {fd : FuncData} {x : Str} {sp : Sp} {ns : List Int} {us : List Value} (kin : K.In st.heap) (gn : st.heap.Ns mainGlobals mg) (bn : st.heap.Ns builtinsNs mb) (bb : ∀ y : Str, y ≠ "__name__" → mb y = bootBuiltins y) (lim : st.heap.NoLimit) (gens : st.gens = #[])
    (emp : ∀ p ∈ cs, st.heap.get? p.2 = some { cls := .none, data := .fields #[] }) (nK : ∀ p ∈ cs, K.lookup p.2 = none) (cod : ∀ p ∈ cs, PySem.W.CodeHd st.heap p.1 p.2)
    (bm : ∃ (m : Addr) (o : Obj), mg "__builtins__" = some (.ref m) ∧ m ≠ builtinsNs ∧ st.heap.get? m = some o ∧ o.cls = .type "module" ∧ o.dict = some builtinsNs ∧ o.data = .plain)
    (obj : st.heap.get? a = some { cls := .type "list", data := .seq us.toArray }) (isI : IntsAre us ns) (len : ns.length ≤ sizeLine)
    (room : Room k callerA) (F : ∀ base : Heap, K.In base → base.Ns mainGlobals mg → (∀ p ∈ cs, LamX.TabB base mg p.1 p.2) → FnG P w K mg base k fa fd [x] sp) (bind : ∀ (s : Shared) (u : Value), BindsTo s fd ⟨[u], []⟩ [(x, u)])
    (h : ∀ H : Hp, (∀ p ∈ cs, H p.2 = some (.tbl #[])) → SqL K H a (ns.map V.int) → sp [.ref a] H (fun v _ => v = .bl true) fun _ _ _ => False) :
    codeAny (model P w) callerA (.call (.ref fa) ⟨[.ref a], []⟩) (fun r s' => r = .ok (.ret (.bool true)) ∧ OldK st.heap s'.heap ∧ s'.os = st.os ∧ AllBare s'.gens) st := by
  have vals := vals_ints isI
  have nA : a ∉ cs.map (·.2) := fun z => by
    obtain ⟨p, hp, e⟩ := List.mem_map.mp z
    have q := emp p hp
    rw [e, obj] at q
    cases congrArg Obj.data (Option.some.inj q)
  have atT : ∀ {b : Addr}, b ∈ cs.map (·.2) → st.heap.get? b = some { cls := .none, data := .fields #[] } ∧ K.lookup b = none := fun {b} z => by
    obtain ⟨p, hp, rfl⟩ := List.mem_map.mp z
    exact ⟨emp p hp, nK p hp⟩
  have onT : ∀ {b : Addr}, tabH cs b ≠ none → b ∈ cs.map (·.2) := fun {b} c => Classical.byContradiction fun z => c (tabH_out z)
  cases inK : K.lookup a with
  | some o =>
    have e := kin a o inK
    rw [obj] at e
    cases e
    refine law_from (H := tabH cs) (ns := ns) kin gn bn bb lim gens emp cod bm (fun p => tabH_in) (fun b => ?_) (fun b u z => ?_) (fun b o e c => .inr ?_) (fun b c => (atT (onT c)).2) room F bind
      (h _ (fun p => tabH_in) (.inr ⟨_, us.toArray, _, inK, rfl, rfl, rfl, by rw [List.size_toArray, isI.length]; exact len, by simpa using vals⟩))
    · by_cases z : b ∈ cs.map (·.2)
      · exact .inr (.inl z)
      · exact .inl (tabH_out z)
    · have z2 := onT (b := b) (by rw [z]; exact fun e => nomatch e)
      have z3 : tabH cs b = some (.tbl #[]) := if_pos z2
      rw [z] at z3
      cases z3
      exact (atT z2).1
    · rw [(atT (onT c)).1] at e
      cases e
      rfl
  | none =>
    have sees : (fun b => if b = a then some (HO.frz { cls := .type "list", data := .seq us.toArray } (.lst (ns.map V.int))) else tabH cs b) a = some (.frz { cls := .type "list", data := .seq us.toArray } (.lst (ns.map V.int))) := if_pos rfl
    have off : ∀ {b : Addr}, b ≠ a → (fun b => if b = a then some (HO.frz { cls := .type "list", data := .seq us.toArray } (.lst (ns.map V.int))) else tabH cs b) b = tabH cs b := fun n => if_neg n
    have tabs : ∀ p ∈ cs, (fun b => if b = a then some (HO.frz { cls := .type "list", data := .seq us.toArray } (.lst (ns.map V.int))) else tabH cs b) p.2 = some (.tbl #[]) := fun p hp =>
      (off fun z => nA (by rw [← z]; exact List.mem_map.mpr ⟨p, hp, rfl⟩)).trans (tabH_in hp)
    refine law_from (H := fun b => if b = a then some (HO.frz { cls := .type "list", data := .seq us.toArray } (.lst (ns.map V.int))) else tabH cs b) (ns := ns) kin gn bn bb lim gens emp cod bm tabs (fun b => ?_) (fun b u z => ?_) (fun b o e c => ?_) (fun b c => ?_) room F bind (h _ tabs (.inl (.inr ⟨_, sees⟩)))
    · by_cases n : b = a
      · exact .inr (.inr ⟨_, _, by rw [n]; exact sees⟩)
      · by_cases z : b ∈ cs.map (·.2)
        · exact .inr (.inl z)
        · exact .inl ((off n).trans (tabH_out z))
    · by_cases n : b = a
      · rw [n] at z ⊢
        have z2 := sees.symm.trans z
        cases z2
        exact ⟨obj, by rw [List.length_map]; exact len, us, _, vals, obj⟩
      · have z1 := (off n).symm.trans z
        have z2 := onT (b := b) (by rw [z1]; exact fun e => nomatch e)
        have z3 : tabH cs b = some (.tbl #[]) := if_pos z2
        rw [z1] at z3
        cases z3
        exact (atT z2).1
    · by_cases n : b = a
      · rw [n, obj] at e
        cases e
        exact .inl ⟨_, _, rfl⟩
      · have z2 := onT (b := b) (fun q => c ((off n).trans q))
        rw [(atT z2).1] at e
        cases e
        exact .inr rfl
    · by_cases n : b = a
      · rw [n]; exact inK
      · exact (atT (onT (b := b) (fun q => c ((off n).trans q)))).2
end
/-- what the law's top must give -/
def LawG (l : PySem.W.OpenLaw) (w : World) (K : PySem.W.Frag) (k n : Nat) (x : Str) (mg : Str → Option Value) (fa : Addr) (h : Heap) : Prop :=
  ∃ (fd : FuncData) (cs : List (Addr × Addr)) (sp : Sp), (∀ p ∈ cs, h.get? p.2 = some { cls := .none, data := .fields #[] }) ∧ (∀ p ∈ cs, K.lookup p.2 = none) ∧ (∀ p ∈ cs, PySem.W.CodeHd h p.1 p.2) ∧ (∀ (s : Shared) (u : Value), BindsTo s fd ⟨[u], []⟩ [(x, u)]) ∧
    (∀ (H : Hp) (a : Addr) (ns : List Int), ns.length ≤ n → (∀ z ∈ ns, Builtin.Int.intBits z ≤ 1048576) → (∀ p ∈ cs, H p.2 = some (.tbl #[])) → SqL K H a (ns.map V.int) → sp [.ref a] H (fun v _ => v = .bl true) fun _ _ _ => False) ∧
    ∀ base : Heap, K.In base → base.Ns mainGlobals mg → (∀ p ∈ cs, LamX.TabB base mg p.1 p.2) → FnG l.prog w K mg base k fa fd [x] sp
theorem walk_G {l : PySem.W.OpenLaw} {n k : Nat} {q : Program} {loose : List Str} {XP : (Str → Option Value) → Heap → Prop} {YP : World → Heap → Prop} {d : DefRec} {x : Str} (hn : l.most = some n) (hn2 : n ≤ sizeLine) (hdf : d.params.defaults = []) (hr : Room k callerA)
    (F : ∀ (w : World) (mg : Str → Option Value) (fa : Addr) (h : Heap), YP w h → h.Ns mainGlobals mg → mg d.name = some (.ref fa) → ∃ K : PySem.W.Frag, K.In h ∧ LawG l w K k n x mg fa h) :
    PySem.W.WalkO q loose XP YP l.row.toRowW d [] (fun f vs => PySem.call f vs) := by
  refine Att.attach_callB hn hdf fun w s₀ st mg mb fa o pm cd doc a us ns G Y ho hd hcd hmg obj isI len bits hg => ?_
  obtain ⟨K, kin, fd, cs, sp, t1, t2, t3, b, h, FF⟩ := F w mg fa _ Y G.T.g hmg
  exact law_with kin G.T.g G.T.b G.T.builtins G.T.nolimit hg t1 t2 t3 G.T.bmain obj isI (Nat.le_trans len hn2) hr FF b fun H tH hS => h H a ns len bits tH hS
end PB

/-! PI: an own exception whose __init__ says super().__init__(x) and self.x = x. -/
namespace PB
open PySem PySem.Spec L2
open PyProof.Rows hiding St
/-- the body of such an __init__ -/
def iniBody (f : Str) (p0 p1 p2 p3 p4 p5 p6 p7 p8 p9 : Pos) : List Stmt :=
  [.Expr (.Call (.Attribute (.Call (.Name "super" p0) [] [] p1) "__init__" p2) [.Name f p3] [] p4) p5, .Assign [.Attribute (.Name "self" p6) f p7] (.Name f p8) p9]
/-- what K tells of the class at C and its __init__ at fI -/
structure IniC (P : Program) (K : PySem.W.Frag) (C fI : Addr) (f : Str) (fd : FuncData) (q : Str) (sc : Scope) (c : Addr) : Prop where
  oex : OexC K C
  fn : ∃ oc od osl, K.lookup fI = some ⟨oc, od, .func fd, osl⟩
  code : PySem.W.codeIn K fd.code q = true
  file : ∃ cda ccl cdd ccs vs file tf, fd.code = .ref cda ∧ K.lookup cda = some ⟨ccl, cdd, .fields vs, ccs⟩ ∧ vs[2]? = some (.str file tf) ∧ ((P.main.file : Str) == file) = true
  top : (P.main.scope.names.lookup ("super" : Str)).isSome = false
  cell : ∃ cl cld csl, K.lookup c = some ⟨cl, cld, .cell (some (.ref C)), csl⟩
  clo : fd.closure = [(("__class__" : Str), c)]
  qual : fd.qualname = q
  scope : fd.scope = sc
  bi : fd.builtins = builtinsNs
  gl : fd.globals = mainGlobals
  dfl : fd.defaults = .none
  kwd : fd.kwdefaults = .none
  sub : PySem.W.mroIn K C (.ref C) = some true
  subV : PySem.W.subIn K (.ref C) (.type "ValueError") = some true
  sup : PySem.W.ks_superIn K C C "__init__" = some (some (.builtin "ValueError.__init__"))
  stat : PySem.W.nsIn K cStatics "thirdparty.any" = some none
  nof : PySem.W.findIn K (.ref C) f = some none
  nosup : PySem.W.nsIn K mainGlobals "super" = some none
/-- the scope of such an __init__ -/
structure IniS (f : Str) (sc : Scope) : Prop where
  kind : sc.kind = .function
  co : sc.isCoroutine = false
  gen : sc.isGenerator = false
  nc : ∀ x ∈ sc.names, x.2 ≠ .cell
  self : sc.names.lookup ("self" : Str) = some .local
  par : sc.names.lookup f = some .local
  sup : sc.names.lookup ("super" : Str) = some .globalImplicit
  cls : sc.names.lookup ("__class__" : Str) = some .free
  ne : f ≠ "self"
/-- the promise of such an __init__ -/
def spIni (C : Addr) (f : Str) : Sp := fun vs H Q _ => ∃ a y, vs = [.ref a, y] ∧ H a = some (exo a C none) ∧ ∀ dx, H dx = none → dx ≠ a → Q .non (upd (upd H dx (exd dx [(f, y)])) a (exo a C (some dx)))
section
variable {prog : Program} {w : World} {A : Around} {E : Value → Shared → Prop} {s : Shared}
/-- the wrapper of ValueError.__init__ called: the object's arguments are laid anew -/
theorem call_mw {u e C t0 : Addr} {rest : List Value} {Q : Value → Shared → Prop} {K : PySem.W.Frag} (hu : s.heap.get? u = some (PySem.W.kxs_mw "ValueError.__init__" e)) (T : OexC K C) (kin : K.In s.heap) (he : s.heap.get? e = some (PySem.HandSPX.excO C t0)) (hz : rest.length ≤ sizeLine)
    (hq : ∀ h' t1, (∀ b o, b ≠ e → s.heap.get? b = some o → h'.get? b = some o) → h'.get? e = some (PySem.HandSPX.excO C t1) → Q .none { s with heap := h' }) : wpAny (model prog w) A (call (.ref u) rest) Q E s := by
  obtain ⟨nm, q, N, bs, bm, sn, sub, ab, col, dd, k0, k1, k2, k3, k5, hC, hbm⟩ := T.cls
  have hC := kin _ _ hC
  obtain ⟨hh, g, d, tk, os⟩ := s
  refine wpAny_call (codeAny_of_tree ?_)
  show wpAny _ A.in1 (callAny (.ref u) ⟨rest, []⟩) _ _ _
  simp only [callAny]
  refine wpAny_bind (wpAny_load hu ?_)
  simp only [PySem.W.kxs_mw, show (Value.type "method-wrapper" == Value.type "method" || Value.type "method-wrapper" == Value.type "builtin_function_or_method" || Value.type "method-wrapper" == Value.type "method-wrapper") = true by decide, if_true]
  refine PySem.W.KFB.if_so (by decide) ?_
  refine wpAny_bind (PySem.W.check_bound_init F.excBase_ValueError.toExcCallFacts hC he rfl ?_)
  refine wpAny_bind (wpAny_pure (wpAny_pure ?_))
  refine ⟨plainId_quiet F.excBase_ValueError.init.plain _, codeAny_builtin F.excBase_ValueError.initEntry ?_⟩
  exact PySem.W.exc_init_tree (cls := .ref C) (t0 := t0) (dv := none) (c2 := .none) (c3 := .none) (b4 := .bool false) he hz fun h' k e' t' => hq h' _ k e'
end
section
variable {P : Program} {w : World} {K : PySem.W.Frag} {mg : Str → Option Value} {base : Heap} {C fI c : Addr} {f q : Str} {fd : FuncData} {sc : Scope} {k : Nat} {ar : Arg} {p0 p1 p2 p3 p4 p5 p6 p7 p8 p9 : Pos}
theorem ini_ok (I : IniC P K C fI f fd q sc c) (S : IniS f sc) (hb : fd.body = .stmts (iniBody f p0 p1 p2 p3 p4 p5 p6 p7 p8 p9)) (hp : (fd.params.posonlyargs ++ fd.params.args).head? = some ar) (hself : ar.arg = ("self" : Str)) (hd1 : (f == ("__debug__" : Str)) = false)
    (hmg : mg "super" = none) {pl : Env → Sem Bool}
    (he : ∀ env : Env, eval (.Call (.Attribute (.Call (.Name "super" p0) [] [] p1) "__init__" p2) [.Name f p3] [] p4) env = (do
      let ov ← attributeBase (.Call (.Name "super" p0) [] [] p1) "__init__" env (eval (.Call (.Name "super" p0) [] [] p1) env)
      standAt p2.atName
      let (g, first) ← holding [ov] (getMethod ov "__init__" (pl env))
      callWith p4 g first (backTo p4 (starEach [.Name f p3] env)) []))
    (hsw : ∀ env : Env, swapsWith (.Call (.Attribute (.Call (.Name "super" p0) [] [] p1) "__init__" p2) [.Name f p3] [] p4) none p5.line env = pure false)
    (hsw2 : ∀ env : Env, swapsWith (.Name f p8) (some (.Attribute (.Name "self" p6) f p7)) p9.line env = pure false) : FnOk P w K mg base (L2.CX P w) (k + 1) fI fd ["self", f] (spIni C f) := by
  obtain ⟨oc, od, osl, lk⟩ := I.fn
  obtain ⟨cda, ccl, cdd, ccs, vs0, file, tf, ecd, lcd, hvs, hfile⟩ := I.file
  obtain ⟨cl, cld, csl, lcell⟩ := I.cell
  refine ⟨fun vs H Q E h => ?_, fun A outer s H args us vs Q E hr e0 hbind hv h => ?_⟩
  · obtain ⟨a, y, rfl, _⟩ := h
    rfl
  obtain ⟨a, y, rfl, ha, cont⟩ := h
  obtain ⟨u0, u, rfl, r0, ry⟩ := vals2 hv
  obtain rfl : u0 = Value.ref a := r0
  have KX : K.In s.heap := e0.mod.kin.keeps fun b o e => (e0.bs b o e).1
  have lim : s.heap.NoLimit := e0.mod.nolimit.keeps fun b o e => (e0.bs b o e).1
  have gn : s.heap.Ns mainGlobals mg := e0.mod.glob.keeps fun b o e => (e0.bs b o e).1
  obtain ⟨mb, bn, bb⟩ := e0.mod.blt
  have bn : s.heap.Ns builtinsNs mb := bn.keeps fun b o e => (e0.bs b o e).1
  obtain ⟨t1, hax⟩ := exo_at e0.hok ha
  obtain ⟨n1, n2, n3, n4, n5, n6, n7, n8, n9, n10, n11, n12, n13, n14, n15⟩ := fd
  have h2 := I.qual
  have h4 := I.scope
  have h7 := I.clo
  have h6 := I.gl
  have h15 := I.bi
  have hcode := I.code
  dsimp only at hb hp h2 h4 h7 h6 h15 ecd hcode
  subst h2 h4 h7 h6 h15 ecd hb
  refine ks_codeAny_call_defAt hr.depth (KX _ _ lk) rfl lim (PySem.W.codeRec_of KX hcode) rfl hbind S.nc (fun z hz => ?_) (fun h0 hns keep0 => ?_) S.co S.gen S.kind
  · have hz : z ∈ [(("self" : Str), Value.ref a), (f, u)] := hz
    simp only [List.mem_cons, List.not_mem_nil, or_false] at hz
    rcases hz with rfl | rfl
    · exact S.self
    · exact S.par
  have ns1 : h0.Ns s.heap.objs.size (fun x => [(f, u), (("self" : Str), Value.ref a)].lookup x) := hns
  have lself : [(f, u), (("self" : Str), Value.ref a)].lookup ("self" : Str) = some (.ref a) := by
    have : (("self" : Str) == f) = false := by
      have := S.ne
      simp only [beq_eq_false_iff_ne, ne_eq]
      exact fun e => this e.symm
    rw [List.lookup_cons, this]; rfl
  have lpar : [(f, u), (("self" : Str), Value.ref a)].lookup f = some u := by
    rw [List.lookup_cons, beq_self_eq_true]
  have X0 : K.In h0 := KX.keeps keep0
  generalize hfd : (FuncData.mk n1 n2 n3 (.stmts (iniBody f p0 p1 p2 p3 p4 p5 p6 p7 p8 p9)) n5 mainGlobals [(("__class__" : Str), c)] n8 n9 n10 n11 n12 (.ref cda) n14 builtinsNs) = fd at *
  have kd : (callEnv fd s.heap.objs.size fI).scope.kind = .function := by rw [← hfd]; exact S.kind
  have inter : interactive (callEnv fd s.heap.objs.size fI) = false := by
    unfold interactive
    rw [kd]; rfl
  have ksup : (callEnv fd s.heap.objs.size fI).kindOf "super" = some .globalImplicit := by rw [← hfd]; exact S.sup
  have kcls : (callEnv fd s.heap.objs.size fI).kindOf "__class__" = some .free := by rw [← hfd]; exact S.cls
  have kself : (callEnv fd s.heap.objs.size fI).kindOf "self" = some .local := by rw [← hfd]; exact S.self
  have kpar : (callEnv fd s.heap.objs.size fI).kindOf f = some .local := by rw [← hfd]; exact S.par
  have efun : (callEnv fd s.heap.objs.size fI).func = some fI := by rw [← hfd]; rfl
  have ecode : (callEnv fd s.heap.objs.size fI).code = .ref cda := by rw [← hfd]; rfl
  have ecell : (callEnv fd s.heap.objs.size fI).cells.lookup ("__class__" : Str) = some c := by rw [← hfd]; rfl
  have eloc : (callEnv fd s.heap.objs.size fI).locals = s.heap.objs.size := by rw [← hfd]; rfl
  have eglo : (callEnv fd s.heap.objs.size fI).globals = mainGlobals := by rw [← hfd]; rfl
  have eblt : (callEnv fd s.heap.objs.size fI).builtins = builtinsNs := by rw [← hfd]; rfl
  have hps : (fd.params.posonlyargs ++ fd.params.args).head? = some ar := by rw [← hfd]; exact hp
  generalize callEnv fd s.heap.objs.size fI = env at *
  obtain ⟨nmC, qC, NC, bsC, bmC, snC, subC, abC, colC, ddC, k0, k1, k2, k3, k5, lC, hbm⟩ := I.oex.cls
  have hcl : PySem.W.clsIn K C = some { name := nmC, bases := bsC, mro := .ref C :: bmC, ns := NC, qualname := qC, hasDict := true, slotNames := snC, subclasses := subC, abstract := abC, collection := colC, hasDel := false } := by
    unfold PySem.W.clsIn; rw [lC] <;> rfl
  have ha0 := keep0 _ _ hax
  refine ks_wpAt_execs_cons (ks_wpAt_Expr_any (ks_wpAt_MethodCall (ks_wpAt_super_base ksup kcls (by decide) efun (X0 _ _ lk) rfl hps ecode (X0 _ _ lcd) rfl hvs hfile I.top ?_) (he _)) inter (hsw _))
  refine PySem.W.ks_loadName_global kd ksup (PySem.Calls.loadGlobal_builtin (by rw [eglo]; exact gn.keeps keep0) hmg (by rw [eblt]; exact bn.keeps keep0) ((bb _ (by decide)).trans (by decide +kernel : bootBuiltins "super" = some (.type "super"))) ⟨rfl, ?_⟩)
  refine wpAny_loadName_free kd kcls ecell ⟨_, X0 _ _ lcell, rfl⟩ ?_
  refine wpAny_loadName_local kd (by rw [hself]; exact kself) (by rw [eloc]; exact ns1) (by rw [hself]; exact lself) ?_
  refine ks_wpAny_isType_cls (X0 _ _ lC) rfl ⟨rfl, ?_⟩
  obtain ⟨hs, g0, d0, tk0, os0⟩ := s
  refine ks_wpAny_call_super (X0 _ _ lC) rfl ha0 rfl (fun c' e' => by cases e') (PySem.W.looks_mroIn X0 I.sub) (fun h1 hso keep1 => ?_)
  have X1 : K.In h1 := X0.keeps keep1
  have ha1 := keep1 _ _ ha0
  have sup2 : PySem.W.alongIn K "__init__" (((Value.ref C :: bmC).dropWhile (· != .ref C)).drop 1) = some (some (.builtin "ValueError.__init__")) := by
    have := I.sup
    unfold PySem.W.ks_superIn at this
    rw [hcl] at this
    exact this
  refine PySem.W.kxs_getMethod PySem.W.kxs_ValueError hso (PySem.W.looks_opaque X1 I.stat) (l₀ := .ref C :: bmC) (fun A Q E s k q => wpAny_bind ((PySem.W.looks_clsIn X1 hcl) A _ E s k (wpAny_pure q))) rfl X1 sup2
    ((show PySem.W.InstAt h1 a _ C none from ⟨ha1, rfl, rfl, trivial⟩).type.andThen (PySem.W.looks_subIn X1 I.subV)) (fun e' => ?_) (by decide) ?_
  · rw [e'] at ha1
    rw [X1 _ _ lC] at ha1
    cases ha1
  have X2 : K.In (h1.push (PySem.W.kxs_mw "ValueError.__init__" a)) := X1.keeps fun b o e' => Heap.get?_push_of_some _ e'
  have hu : (h1.push (PySem.W.kxs_mw "ValueError.__init__" a)).get? h1.objs.size = some (PySem.W.kxs_mw "ValueError.__init__" a) := Heap.get?_push_at rfl rfl
  have keep2 : ∀ b o, hs.get? b = some o → (h1.push (PySem.W.kxs_mw "ValueError.__init__" a)).get? b = some o := fun b o e' => Heap.get?_push_of_some _ (keep1 _ _ (keep0 _ _ e'))
  have ns2 : (h1.push (PySem.W.kxs_mw "ValueError.__init__" a)).Ns hs.objs.size (fun x => [(f, u), (("self" : Str), Value.ref a)].lookup x) := ns1.keeps fun b o e' => Heap.get?_push_of_some _ (keep1 _ _ e')
  show wpAny _ _ (callWith p4 (.ref h1.objs.size) [] ((false, eval (.Name f p3) env) :: backTo p4 (starEach [] env)) []) _ _ _
  refine PySem.W.kxs_callWith (i := "ValueError.__init__") (x := a) rfl (PySem.Calls.evalArgs_plain (PySem.Calls.spliced_cons (wpAny_Name (wpAny_loadName_local kd kpar (by rw [eloc]; exact ns2) lpar (PySem.Calls.spliced_nil ⟨hu, ?_⟩)) hd1)))
  refine call_mw hu I.oex X2 (Heap.get?_push_of_some _ ha1) (show 1 ≤ sizeLine by decide) (fun h3 t3 keep3 ha3 => ?_)
  have nC : C ≠ a := fun e' => by
    have z := X2 _ _ lC
    rw [e', Heap.get?_push_of_some _ ha1] at z
    cases z
  have nL : hs.objs.size ≠ a := Nat.ne_of_gt (Heap.lt_size hax)
  have X3 : K.In h3 := fun b o e' => keep3 b o (fun z => by
    rw [z] at e'
    have z2 := (e0.bs a _ (e0.mod.kin _ _ e')).2
    rw [ha] at z2
    cases z2) (X2 b o e')
  have ns3 : h3.Ns hs.objs.size (fun x => [(f, u), (("self" : Str), Value.ref a)].lookup x) := ns2.at fun o e' => keep3 _ o nL e'
  refine ks_wpAt_execs_cons (ks_wpAt_Assign_Attr (wpAt_of_wpAny (wpAny_Name (wpAny_loadName_local kd kpar (by rw [eloc]; exact ns3) lpar (wpAny_Name (wpAny_loadName_local kd kself (by rw [eloc]; exact ns3) lself ?_) (by decide))) hd1)) (hsw2 _))
  refine PySem.W.set_plain X3 (ox := PySem.HandSPX.excO C t3) (od := none) ⟨ha3, rfl, rfl, trivial⟩ I.oex.sa ?_
  refine PySem.HandSPX.exc_osa X3 ha3 hcl (show PySem.HandSPX.refsVE (.ref C :: bmC) = true from hbm) rfl I.nof (fun h4 tk4 dx keep4 dn dne ha4 hn4 => ?_)
  refine wpAt_of_wpAny (wpAny_execs_nil ?_)
  have hsz : hs.objs.size ≤ dx := by
    have l1 : h1.objs.size < h3.objs.size := by
      obtain ⟨o, ho⟩ : ∃ o, h3.get? h1.objs.size = some o := by
        by_cases z : h1.objs.size = a
        · exact ⟨_, by rw [z]; exact ha3⟩
        · exact ⟨_, keep3 _ _ z hu⟩
      exact Heap.lt_size ho
    have l2 : hs.objs.size ≤ h1.objs.size := by
      obtain ⟨oL, _, _, hL, _⟩ := ns1
      exact Nat.le_of_lt (Heap.lt_size (keep1 _ _ hL))
    have l3 : h3.objs.size ≤ dx := dn
    omega
  have nd : H dx = none := e0.hok.fresh hsz
  have nda : ∀ {b : Addr} {o : Obj}, hs.get? b = some o → b ≠ dx := fun {b o} z => Nat.ne_of_lt (Nat.lt_of_lt_of_le (Heap.lt_size z) hsz)
  have na : ∀ {b : Addr}, H b = none → b ≠ a := fun {b} n z => by
    rw [z, ha] at n
    cases n
  have keep : ∀ b o, b ≠ a → hs.get? b = some o → h4.get? b = some o := fun b o n z => keep4 b o n (keep3 b o n (keep2 b o z))
  refine ⟨.non, _, rfl, e0.bare, ⟨fun b o z n _ _ => keep b o (na n) z, fun b o z n _ _ => ⟨o.slots, keep b o (na n) z⟩, fun b o z n _ => by rw [upd_ne (na n), upd_ne (nda z)]; exact n, fun b o z _ => ?_, fun b xs z => ?_, fun b o v z => ?_, fun b ps z => ⟨#[], ?_⟩⟩, fun b o z => ?_, rfl, cont dx nd dne⟩
  · by_cases n : b = a
    · exact ⟨_, by rw [n]; exact ha4⟩
    · exact ⟨o, keep b o n z⟩
  · rw [upd_ne (at_ne ha z exo_tup), upd_ne (ne_of_none z nd)]; exact z
  · rw [upd_ne (at_ne ha z exo_frz), upd_ne (ne_of_none z nd)]; exact z
  · rw [upd_ne (at_ne ha z exo_tbl), upd_ne (ne_of_none z nd), z]; simp
  · by_cases n : b = a
    · rw [n, upd_same] at z
      cases z
      rw [n]
      exact exo_ok ha4
    · rw [upd_ne n] at z
      by_cases m : b = dx
      · rw [m, upd_same] at z
        cases z
        rw [m]
        exact exd_ok hn4 (relO_put (fs := []) ry fun g => True.intro)
      · rw [upd_ne m] at z
        exact (e0.hok b o z).stay (fun e v he' hz => keep e v (by
            rcases he' with he' | he'
            · rw [he']; exact n
            · exact at_ne ha he' exo_own) hz)
          (fun e he' => by rw [upd_ne (at_ne ha he' exo_own), upd_ne (ne_of_none he' nd)]; exact he') (fun e xs he' => by rw [upd_ne (at_ne ha he' exo_tup), upd_ne (ne_of_none he' nd)]; exact he')
end
end PB

/-! PH: the head tells own exceptions too; raising and catching them; a lambda that is called in a try. -/
namespace PB
open PySem PySem.Spec L2
open PyProof.Rows hiding St
/-- an own exception: its name, its field, its __init__ -/
structure IniD where
  x : Str
  f : Str
  params : Arguments
  body : List Stmt
  scope : Scope
abbrev IniW : Type := Option (Str × Arguments × FuncBody × Scope × Addr × List Str × Addr)
def clsA (K : PySem.W.Frag) (x : Str) : Addr := He.ga K x
def iniA (K : PySem.W.Frag) (x : Str) : Addr := He.ma K (He.ga K x) "__init__"
def iniW (K : PySem.W.Frag) (x : Str) : IniW := match K.lookup (iniA K x) with
  | some ⟨_, _, .func fd, _⟩ => some (fd.qualname, fd.params, fd.body, fd.scope, fd.globals, fd.closure.map (·.1), fd.builtins)
  | _ => none
def IniD.val (d : IniD) : IniW := some (d.x ++ ".__init__", d.params, .stmts d.body, d.scope, mainGlobals, ["__class__"], builtinsNs)
def oexB (K : PySem.W.Frag) (C : Addr) : Bool := (match K.lookup C with
  | some ⟨.type "type", _, .cls cd, sl⟩ => (match cd.mro, sl.toList with
    | .ref C' :: bm, [_, _, _, _, some (.builtin n), _] => C' == C && (n == "ValueError.__new__" && (!cd.hasDel && (cd.hasDict && PySem.HandSPX.refsVE bm)))
    | _, _ => false)
  | _ => false)
def cloB (K : PySem.W.Frag) (file q : Str) (C fI : Addr) : Bool := match K.lookup fI with
  | some ⟨_, _, .func fd, _⟩ => (PySem.W.codeIn K fd.code q && (decide (fd.defaults = .none) && decide (fd.kwdefaults = .none))) && ((match fd.code with
    | .ref c => (match K.lookup c with
      | some ⟨_, _, .fields vs, _⟩ => (match vs[2]? with
        | some (Value.str g _) => file == g
        | _ => false)
      | _ => false)
    | _ => false) && (match fd.closure with
    | [(_, c)] => (match K.lookup c with
      | some ⟨_, _, .cell (some (.ref D)), _⟩ => D == C
      | _ => false)
    | _ => false))
  | _ => false
def eqS (a b : Option (Option Value)) : Bool := decide (a = b)
/-- all that is asked of K for such a class -/
def iniB (P : Program) (K : PySem.W.Frag) (d : IniD) : Bool :=
  oexB K (clsA K d.x) && (cloB K P.main.file (d.x ++ ".__init__") (clsA K d.x) (iniA K d.x) && (!(P.main.scope.names.lookup ("super" : Str)).isSome && (decide (PySem.W.mroIn K (clsA K d.x) (.ref (clsA K d.x)) = some true) &&
  (decide (PySem.W.subIn K (.ref (clsA K d.x)) (.type "ValueError") = some true) && (eqS (PySem.W.ks_superIn K (clsA K d.x) (clsA K d.x) "__init__") (some (some (.builtin "ValueError.__init__"))) && (eqS (PySem.W.nsIn K cStatics "thirdparty.any") (some none) &&
  (eqS (PySem.W.findIn K (.ref (clsA K d.x)) d.f) (some none) && (eqS (PySem.W.nsIn K mainGlobals "super") (some none) && (eqS (PySem.W.findIn K (.ref (clsA K d.x)) "__setattr__") (some (some (.builtin "object.__setattr__"))) &&
  (decide (PySem.W.typeIn K (.ref (clsA K d.x)) = some (.type "type")) && (PySem.W.keepIn K (.ref (clsA K d.x)) && (xfB K (clsA K d.x) && (eqS (PySem.W.findIn K (.ref (clsA K d.x)) "__init__") (some (some (.ref (iniA K d.x)))) &&
  (decide (PySem.W.typeIn K (.ref (iniA K d.x)) = some (.type "function")) && (decide (PySem.W.exmOne K (.ref (clsA K d.x)) (.ref (clsA K d.x)) = some true) && eqS (PySem.W.nsIn K mainGlobals d.x) (some (some (.ref (clsA K d.x)))))))))))))))))))
theorem oexB_ok {K : PySem.W.Frag} {C : Addr} (h : oexB K C = true) : ∃ nm q N bs bm sn sub ab col dd k0 k1 k2 k3 k5, K.lookup C = some (excClassObj nm q C N bs bm true sn sub ab col dd k0 k1 k2 k3 k5 "ValueError.__new__") ∧ PySem.HandSPX.refsVE bm = true := by
  unfold oexB at h
  split at h
  · rename_i dd cd sl ho
    split at h
    · rename_i C' bm k0 k1 k2 k3 n k5 hm hs
      simp only [Bool.and_eq_true, beq_iff_eq, Bool.not_eq_true'] at h
      obtain ⟨rfl, rfl, hdel, hdict, hv⟩ := h
      obtain ⟨nm, bs, mro, ns, qn, hd, sn, sub, ab, col, del⟩ := cd
      dsimp only at hm hdel hdict
      subst hm hdel hdict
      obtain ⟨l⟩ := sl
      dsimp only at hs
      subst hs
      exact ⟨nm, qn, ns, bs, bm, sn, sub, ab, col, dd, k0, k1, k2, k3, k5, ho, hv⟩
    · cases h
  · cases h
/-- the facts of one class -/
structure IniF (P : Program) (K : PySem.W.Frag) (d : IniD) : Prop where
  ic : ∃ fd c, IniC P K (clsA K d.x) (iniA K d.x) d.f fd (d.x ++ ".__init__") d.scope c ∧ fd.params = d.params ∧ fd.body = .stmts d.body
  xf : XfC K (clsA K d.x)
  init : PySem.W.findIn K (.ref (clsA K d.x)) "__init__" = some (some (.ref (iniA K d.x)))
  tyI : PySem.W.typeIn K (.ref (iniA K d.x)) = some (.type "function")
  exm : PySem.W.exmOne K (.ref (clsA K d.x)) (.ref (clsA K d.x)) = some true
  glo : PySem.W.nsIn K mainGlobals d.x = some (some (.ref (clsA K d.x)))
theorem iniF_of {P : Program} {K : PySem.W.Frag} {d : IniD} (e : iniW K d.x = d.val) (h : iniB P K d = true) : IniF P K d := by
  unfold iniB at h
  simp only [Bool.and_eq_true, eqS, decide_eq_true_eq, Bool.not_eq_true'] at h
  obtain ⟨h1, h2, h3, h4, h5, h6, h7, h8, h9, h10, h11, h12, h13, h14, h15, h16, h17⟩ := h
  refine ⟨?_, xfB_ok h13, h14, h15, h16, h17⟩
  unfold iniW at e
  unfold cloB at h2
  split at e
  · rename_i oc od fd osl lk
    rw [lk] at h2
    obtain ⟨n1, n2, n3, n4, n5, n6, n7, n8, n9, n10, n11, n12, n13, n14, n15⟩ := fd
    unfold IniD.val at e
    simp only [Option.some.injEq, Prod.mk.injEq] at e
    obtain ⟨e1, e2, e3, e4, e5, e6, e7⟩ := e
    subst e1 e2 e3 e4 e5 e7
    simp only [Bool.and_eq_true, decide_eq_true_eq] at h2
    obtain ⟨⟨g1, d1, d2⟩, g2, g3⟩ := h2
    have file : ∃ cda ccl cdd ccs vs file tf, n13 = .ref cda ∧ K.lookup cda = some ⟨ccl, cdd, .fields vs, ccs⟩ ∧ vs[2]? = some (.str file tf) ∧ ((P.main.file : Str) == file) = true := by
      split at g2
      · rename_i c
        split at g2
        · rename_i ccl cdd vs ccs lc
          split at g2
          · rename_i file tf hv
            exact ⟨c, ccl, cdd, ccs, vs, file, tf, rfl, lc, hv, g2⟩
          · cases g2
        · cases g2
      · cases g2
    have clo : ∃ c, n7 = [(("__class__" : Str), c)] ∧ ∃ cl cld csl, K.lookup c = some ⟨cl, cld, .cell (some (.ref (clsA K d.x))), csl⟩ := by
      split at g3
      · rename_i y c
        split at g3
        · rename_i cl cld D csl lc
          simp only [List.map_cons, List.map_nil, List.cons.injEq, and_true] at e6
          have := beq_iff_eq.mp g3
          subst this
          exact ⟨c, by rw [e6], cl, cld, csl, lc⟩
        · cases g3
      · cases g3
    obtain ⟨c, c1, c2⟩ := clo
    have xf := xfB_ok h13
    exact ⟨_, c, ⟨⟨oexB_ok h1, h10, xf.exC, h11, h12⟩, ⟨oc, od, osl, lk⟩, g1, file, by simpa using h3, c2, c1, rfl, rfl, rfl, rfl, d1, d2, h4, h5, h6, h7, h8, h9⟩, rfl, rfl⟩
  · cases e
/-! ### the Hook -/
def asI (g : Addr → Option Obj) (n : Nat) : List Addr := He.asD g n ++ [cStatics]
abbrev AlI : Type := (He.AlT × Bool) × List IniW
def obsI (n : Nat) (fa : List He.Fa) (fn : List He.DefD) (ts : List He.Tab) (tf : List He.Defn) (is : List IniD) (ex : PySem.W.Frag → Bool) (g : Addr → Option Obj) : AlI :=
  ((He.obsT fa fn ts (He.frT g (asI g n)), ex (He.frT g (asI g n)) && He.tabsB g tf (He.frT g (asI g n))), is.map fun d => iniW (He.frT g (asI g n)) d.x)
def valI (fn : List He.DefD) (ts : List He.Tab) (is : List IniD) (w : World) : AlI := ((He.valT fn ts w, true), is.map IniD.val)
structure SaysI (fa : List He.Fa) (fn : List He.DefD) (ts : List He.Tab) (tf : List He.Defn) (is : List IniD) (ex : PySem.W.Frag → Bool) (w : World) (h : Heap) (K : PySem.W.Frag) : Prop where
  x : He.SaysX fa fn ts tf ex w h K
  ini : (is.map fun d => iniW K d.x) = is.map IniD.val
theorem saysI_of {n : Nat} {fa : List He.Fa} {fn : List He.DefD} {ts : List He.Tab} {tf : List He.Defn} {is : List IniD} {ex : PySem.W.Frag → Bool} {w : World} {h : Heap} (e : obsI n fa fn ts tf is ex h.get? = valI fn ts is w) :
    SaysI fa fn ts tf is ex w h (He.frT h.get? (asI h.get? n)) := by
  have e1 : He.obsT fa fn ts (He.frT h.get? (asI h.get? n)) = He.valT fn ts w := congrArg (fun z : AlI => z.1.1) e
  have e2 : (ex (He.frT h.get? (asI h.get? n)) && He.tabsB h.get? tf (He.frT h.get? (asI h.get? n))) = true := congrArg (fun z : AlI => z.1.2) e
  have e3 : (is.map fun d => iniW (He.frT h.get? (asI h.get? n)) d.x) = is.map IniD.val := congrArg (fun z : AlI => z.2) e
  rw [Bool.and_eq_true] at e2
  have at_ : ∀ p ∈ tf, PySem.W.codeHdIn (He.frT h.get? (asI h.get? n)) (He.cT (He.frT h.get? (asI h.get? n)) p).1 (He.cT (He.frT h.get? (asI h.get? n)) p).2 = true ∧ ∃ o, h.get? (He.cT (He.frT h.get? (asI h.get? n)) p).2 = some o ∧ He.emptyTab o = true := fun p hp => by
    have q := List.all_eq_true.mp e2.2 p hp
    rw [Bool.and_eq_true] at q
    refine ⟨q.1, ?_⟩
    have q2 := q.2
    split at q2
    · rename_i o ho
      exact ⟨o, ho, q2⟩
    · cases q2
  refine ⟨⟨e1, e2.1, fun p hp => (at_ p hp).1, fun p hp => ?_, fun p hp => ?_⟩, e3⟩
  · obtain ⟨_, o, ho, z⟩ := at_ p hp
    exact He.frT_none ho z
  · obtain ⟨_, o, ho, z⟩ := at_ p hp
    rw [ho, He.emptyTab_eq z]
def hookI (n : Nat) (fa : List He.Fa) (fn : List He.DefD) (ts : List He.Tab) (tf : List He.Defn) (is : List IniD) (ex : PySem.W.Frag → Bool) : PySem.W.Hook where
  α := AlI
  obs := fun s => obsI n fa fn ts tf is ex s.heap.get?
  val := fun w => valI fn ts is w
  says := fun w h => ∃ K : PySem.W.Frag, K.In h ∧ SaysI fa fn ts tf is ex w h K
  of := fun _ _ e => ⟨_, He.frT_in, saysI_of e⟩
  keeps := fun _ _ _ ⟨K, hK, c⟩ k => ⟨K, PySem.W.Frag.In.keeps hK k, ⟨⟨c.x.t, c.x.more, c.x.hd, c.x.out, fun p hp => k _ _ (c.x.empty p hp)⟩, c.ini⟩⟩
theorem obsI_eq {n : Nat} {fa : List He.Fa} {fn : List He.DefD} {ts : List He.Tab} {tf : List He.Defn} {is : List IniD} {ex : PySem.W.Frag → Bool} {g : Addr → Option Obj} {s : Shared} (h : ∀ a, g a = s.heap.get? a) : obsI n fa fn ts tf is ex g = (hookI n fa fn ts tf is ex).obs s := by
  have e : g = s.heap.get? := funext h
  rw [e]; rfl
theorem SaysI.iniF {P : Program} {fa : List He.Fa} {fn : List He.DefD} {ts : List He.Tab} {tf : List He.Defn} {is : List IniD} {ex : PySem.W.Frag → Bool} {w : World} {h : Heap} {K : PySem.W.Frag} (c : SaysI fa fn ts tf is ex w h K) (hex : ∀ K d, ex K = true → d ∈ is → iniB P K d = true) (i : Nat) {d : IniD} (hi : is[i]? = some d := by rfl) : IniF P K d := by
  have e2 : (is.map fun d => iniW K d.x)[i]? = (is.map IniD.val)[i]? := by rw [c.ini]
  rw [List.getElem?_map, List.getElem?_map, hi] at e2
  exact iniF_of (Option.some.inj e2) (hex K d c.x.more (List.mem_of_getElem? hi))
/-! ### raising -/
/-- the own exception by its name -/
def Own (P : Program) (w : World) (K : PySem.W.Frag) (mg : Str → Option Value) (base : Heap) (k : Nat) (x f : Str) : Prop :=
  mg x = some (.ref (clsA K x)) ∧ OexC K (clsA K x) ∧ PySem.W.findIn K (.ref (clsA K x)) "__init__" = some (some (.ref (iniA K x))) ∧ PySem.W.typeIn K (.ref (iniA K x)) = some (.type "function") ∧
    (XfC K (clsA K x) ∧ PySem.W.findIn K (.ref (clsA K x)) f = some none) ∧ PySem.W.exmOne K (.ref (clsA K x)) (.ref (clsA K x)) = some true ∧
    ∃ fd, FnOk P w K mg base (L2.CX P w) k (iniA K x) fd ["self", f] (spIni (clsA K x) f) ∧ Binds K fd ["self", f] []
theorem own_of {P : Program} {w : World} {K : PySem.W.Frag} {mg : Str → Option Value} {base : Heap} {d : IniD} {ar : Arg} {p0 p1 p2 p3 p4 p5 p6 p7 p8 p9 : Pos} {pl : Env → Sem Bool} (F : IniF P K d) (kin : K.In base) (gl : base.Ns mainGlobals mg) (S : IniS d.f d.scope)
    (hb : d.body = iniBody d.f p0 p1 p2 p3 p4 p5 p6 p7 p8 p9) (hp : (d.params.posonlyargs ++ d.params.args).head? = some ar) (hself : ar.arg = ("self" : Str)) (hd1 : (d.f == ("__debug__" : Str)) = false)
    (he : ∀ env : Env, eval (.Call (.Attribute (.Call (.Name "super" p0) [] [] p1) "__init__" p2) [.Name d.f p3] [] p4) env = (do
      let ov ← attributeBase (.Call (.Name "super" p0) [] [] p1) "__init__" env (eval (.Call (.Name "super" p0) [] [] p1) env)
      standAt p2.atName
      let (g, first) ← holding [ov] (getMethod ov "__init__" (pl env))
      callWith p4 g first (backTo p4 (starEach [.Name d.f p3] env)) []))
    (hsw : ∀ env : Env, swapsWith (.Call (.Attribute (.Call (.Name "super" p0) [] [] p1) "__init__" p2) [.Name d.f p3] [] p4) none p5.line env = pure false)
    (hsw2 : ∀ env : Env, swapsWith (.Name d.f p8) (some (.Attribute (.Name "self" p6) d.f p7)) p9.line env = pure false)
    (hbind : ∀ (n1 : Str) (c : Addr) (doc pm cd ct : Value) (an : Option Addr) (us : List Value), us.length = 2 → bindArgs (FuncData.mk n1 (d.x ++ ".__init__") d.params (.stmts d.body) d.scope mainGlobals [(("__class__" : Str), c)] .none .none doc pm an cd ct builtinsNs) ⟨us, []⟩ = pure ((["self", d.f] : List Str).zip us)) :
    Own P w K mg base 1 d.x d.f := by
  obtain ⟨fd, c, I, e1, e2⟩ := F.ic
  refine ⟨PySem.W.mg_of kin gl F.glo, I.oex, F.init, F.tyI, ⟨F.xf, I.nof⟩, F.exm, fd, ini_ok I S (by rw [e2, hb]) (by rw [e1]; exact hp) hself hd1 (PySem.W.mg_none_of kin gl I.nosup) he hsw hsw2, ?_⟩
  refine Binds.all fun us hl => ?_
  obtain ⟨n1, n2, n3, n4, n5, n6, n7, n8, n9, n10, n11, n12, n13, n14, n15⟩ := fd
  have h2 := I.qual
  have h4 := I.scope
  have h7 := I.clo
  have h6 := I.gl
  have h15 := I.bi
  have h8 := I.dfl
  have h9 := I.kwd
  dsimp only at e1 e2 h2 h4 h7 h6 h15 h8 h9
  subst e1 e2 h2 h4 h7 h6 h15 h8 h9
  exact hbind _ _ _ _ _ _ _ _ hl
/-- what a raise of it wants: the exception is new, its dict has the field -/
def mkQ (C : Addr) (f : Str) (R : XK) : VK := fun y H1 => [y].length ≤ 1000 ∧ ∀ a, H1 a = none → spIni C f (.ref a :: ([y] ++ [])) (upd H1 a (exo a C none))
  (fun v H2 => v = .non ∧ ∃ (d : Addr) (fs : List (Str × V)), H2 a = some (exo a C (some d)) ∧ H2 d = some (exd d fs) ∧ H1 d = none ∧ R (.ref C) (some d) (upd (del H2 a) d (.xd fs))) (fun _ _ _ => False)
def tRais (C : Addr) (f : Str) (te : TE) (W : WX) : TS := fun _ σ H => te σ H (mkQ C f fun cls d H' => W cls d σ H')
theorem r_rais {C : Addr} {f : Str} {te : TE} {W : WX} {D : Ends} {σ : St} {H : Hp} (h : te σ H (mkQ C f fun cls d H' => W cls d σ H')) : tRais C f te W D σ H := h
theorem r_mkQ {C : Addr} {f : Str} {R : XK} {y : V} {H : Hp} (h : ∀ d H', H d = none → Ex H H' → H' d = some (.xd [(f, y)]) → R (.ref C) (some d) H') : mkQ C f R y H := by
  refine ⟨(show 1 ≤ 1000 by decide), fun a ha => ⟨a, y, rfl, upd_same, fun dx hd hda => ⟨rfl, dx, [(f, y)], upd_same, ?_, ?_, h dx _ ?_ (fun b o hb => ?_) upd_same⟩⟩⟩
  · rw [upd_ne hda, upd_same]
  · rw [upd_ne hda] at hd
    exact hd
  · rw [upd_ne hda] at hd
    exact hd
  · rw [upd_ne hda] at hd
    have n1 : b ≠ dx := fun e => by rw [e, hd] at hb; cases hb
    have n2 : b ≠ a := fun e => by rw [e, ha] at hb; cases hb
    rw [upd_ne n1, del_ne n2, upd_ne n2, upd_ne n1, upd_ne n2]
    exact hb
theorem ps_own {X : Cx} {K : PySem.W.Frag} {W : WX} {k j : Nat} {x f : Str} {e : Expr} {te : TE} {p pos pos' : Pos} (eK : X.K = K) (O : Own X.prog X.w X.K X.mg X.base k x f) (hc : X.calm = true) (tk : Takes X W) (hr : Room j X.A) (hk : k + 1 ≤ j) (hx : Passes (L2.CX X.prog X.w) X fun _ _ _ => False) (he : PE X e te)
    (hg : Gl X x := by rfl) (hdb : (x == ("__debug__" : Str)) = false := by decide) (hs : starEach [e] X.env = [(false, eval e X.env)] := by rfl) :
    PS X (.Raise (some (.Call (.Name x p) [e] [] pos)) none pos') (tRais (clsA K x) f te W) := by
  subst eK
  obtain ⟨hm, T, iC, tI, _, _, fd, F, b⟩ := O
  exact ps_raise hc tk (pmk_oex (e := e) (es := []) T iC tI F (hr.mono hk) b .nil hx hg hm (pa_cons he pa_nil hs) hdb hs rfl)
/-! ### a lambda called in a try -/
/-- what it was: what the exception's field says, or ret -/
def TTref (C : Addr) (f ret : Str) : (XK → Hp → VK → Prop) → Hp → VK → Prop := fun tl H Q =>
  tl (fun cls d H' => cls = .ref C ∧ ∃ dd v, d = some dd ∧ H' dd = some (.xd [(f, v)]) ∧ Q v H') H fun _ H' => Q (.str ret) H'
theorem takes_len {X : Cx} {W : WX} {n : Nat} (hn : X.N.length = n) (t : Takes X W) : Takes X fun cls d σ H => σ.length = n → W cls d σ H := fun u s' ⟨a, B, sI, pins, σ, H, cls, d, e, I, nb, up, sky, na, os, ag, q⟩ =>
  t u s' ⟨a, B, sI, pins, σ, H, cls, d, e, I, nb, up, sky, na, os, ag, q (by rw [← hn]; exact I.len)⟩
theorem ref_gives {X : Cx} {x a e n f q ret : Str} {sg : Scope} {g CS : Addr} {cdg : Value} {j : Nat} {p1 p2 p3 p4 p5 p6 p7 p8 p9 p10 p11 : Pos} (hge : sg.names.lookup e = some .globalImplicit) (hme : X.mg e = some (.ref CS)) (hde : (e == ("__debug__" : Str)) = false)
    (T : XfC X.K CS) (hno : PySem.W.findIn X.K (.ref CS) f = some none) (hex : PySem.W.exmOne X.K (.ref CS) (.ref CS) = some true) (hnd : [a, n].Nodup) (hln : sg.names.lookup n = some .local) (hn1 : (n == ("__debug__" : Str)) = false) (hn2 : (n == ("__classdict__" : Str)) = false)
    (hb : ∀ env : Env, attributeBase (.Name n p5) f env (eval (.Name n p5) env) = eval (.Name n p5) env) (hsw : ∀ env : Env, swapsWith (.Call (.Name a p1) [] [] p2) none p3.line env = pure false) :
    LamX.GivesTo X [a, n] x sg g cdg [.Try [.Expr (.Call (.Name a p1) [] [] p2) p3] [.ExceptHandler (some (.Name e p4)) (some n) [.Return (some (.Attribute (.Name n p5) f p6)) p7] p8] [] [] p9, .Return (some (.Constant (.str ret) j p10)) p11] a q (TTref CS f ret) := by
  intro fa c' s H Q tl act hc h
  have hgl : Gl (cxOf C8.CX0 X.prog X.w X.K X.mg X.base [a, n] x sg g cdg X.A X.stack s H C8.E0).nox e := hge
  refine ⟨_, pss_cons (ps_try_as (X := (cxOf C8.CX0 X.prog X.w X.K X.mg X.base [a, n] x sg g cdg X.A X.stack s H C8.E0).nox) (c := .ref CS) (i := 1)
      (tb := fun W D σ H => ∃ Ech : XK, (∀ cls d σ' H', σ'.length = 2 → Ech cls d H' → W cls d σ' H') ∧ σ[0]? = some (some (.ref fa)) ∧ H c' = some (LamX.CodeO c' q) ∧ tl Ech H fun _ H' => D.nx σ H')
      rfl rfl hnd rfl hln ⟨hgl, hde, .inl hme⟩ LamX.takes0 (fun W pn xe tk _ => ?_) (fun b oe cls d pn hz hf => pss_one (ps_ret (pe_xf T hno hz hf (pe_var (i := 1) rfl (.inl hln) hn1 hn2) (hb _))))) (pss_one (ps_ret pe_str)), ?_⟩
  · refine ⟨fun pins s' σ H' D I h' => ?_⟩
    obtain ⟨Ech, hW, h1, h2, h3⟩ := h'
    have hp := act _ pn xe Ech p1 p2 (takes_len (n := 2) rfl tk) fun cls d σ' H' k l => hW cls d σ' H' l k
    exact (pss_one (ps_expr hp (hsw _))).run pins s' σ H' D I ⟨h1, h2, h3⟩
  · refine ⟨fun cls d H' => cls = .ref CS ∧ ∃ dd v, d = some dd ∧ H' dd = some (.xd [(f, v)]) ∧ Q v H', fun cls d σ' H' hl hE => ?_, rfl, hc, h⟩
    obtain ⟨rfl, dd, v, rfl, hd, hq⟩ := hE
    refine ⟨true, hex, fun _ b hb' => ?_, fun z => by cases z⟩
    match σ', hl with
    | [s0, s1], _ => exact ⟨.ref b, rfl, rfl, rfl, dd, [(f, v)], v, rfl, hd, by rw [List.lookup_cons, beq_self_eq_true], hq⟩
end PB

/-! PF: lambdas handed to a def that calls them in a try; keyword calls without a positional argument. -/
namespace PB
open PySem PySem.Spec L2
open PyProof.Rows hiding St
/-- heaps: all but the tables of code stands -/
abbrev ExN (H H' : Hp) : Prop := LamX.ExtN H H'
theorem ExN.of {H H' : Hp} (e : Ex H H') : ExN H H' := fun b o h _ => e b o h
theorem ExN.refl (H : Hp) : ExN H H := fun _ _ h _ => h
theorem ExN.tr {A B C : Hp} (a : ExN A B) (b : ExN B C) : ExN A C := fun x o h n => b x o (a x o h n) n
theorem sqT_exn {K : PySem.W.Frag} {H H' : Hp} {a : Addr} {xs : List V} (e : ExN H H') (h : SqT K H a xs) : SqT K H' a xs := by
  rcases h with (h | ⟨o, h⟩) | h
  · exact .inl (.inl (e _ _ h fun _ z => by cases z))
  · exact .inl (.inr ⟨o, e _ _ h fun _ z => by cases z⟩)
  · exact .inr h
theorem sqL_exn {K : PySem.W.Frag} {H H' : Hp} {a : Addr} {xs : List V} (e : ExN H H') (h : SqL K H a xs) : SqL K H' a xs := by
  rcases h with (h | ⟨o, h⟩) | h
  · exact .inl (.inl (e _ _ h fun _ z => by cases z))
  · exact .inl (.inr ⟨o, e _ _ h fun _ z => by cases z⟩)
  · exact .inr h
/-- a def's body, its code object known -/
theorem fnL_of {P : Program} {w : World} {K : PySem.W.Frag} {mg : Str → Option Value} {base : Heap} {x : Str} {a : Arguments} {b : List Stmt} {sc : Scope} {fd : FuncData} {N ps : List Str} {k : Nat} {sp : Sp} (F : FunD K x x a b sc [] [] (He.fAd K (x, none)) fd) (S : FnScope N ps sc)
    (len : ∀ vs H Q E, sp vs H Q E → vs.length = ps.length)
    (hbody : ∀ (cdv : Value) (A : Around) (outer : List Env) (s : Shared) (H : Hp) (vs : List V) (Q : VK) (E : XK), cdv = .ref (He.codeOf K (x, none)) → (A.deeper (envOfC x sc s.heap.objs.size (He.fAd K (x, none)) cdv)).guards = some [] → Room k (A.deeper (envOfC x sc s.heap.objs.size (He.fAd K (x, none)) cdv)) → sp vs H Q E →
      ∃ t, PSs (cxOf (L2.CX P w) P w K mg base N x sc (He.fAd K (x, none)) cdv A outer s H E) b t ∧ t { nx := fun _ H' => Q .non H', rt := Q } (start N vs) H) : FnG P w K mg base (k + 1) (He.fAd K (x, none)) fd ps sp := by
  obtain ⟨oc, od, dV, kV, doc, pm, an, cdv, ct, osl, rfl, lk, hcd, _, _⟩ := F.ex
  obtain ⟨c, rfl⟩ := He.codeIn_ref hcd
  have ec : c = He.codeOf K (x, none) := (He.codeOf_eq lk rfl).symm
  exact ⟨len, fun A outer s H args us vs Q E hg hr e0 hb r h => LamX.run_ofS lk hcd S hr e0 hb r (len _ _ _ _ h) fun hr' => hbody (.ref c) A outer s H vs Q E (by rw [ec]) hg hr' h⟩
section
variable {P : Program} {w : World} {fa : List He.Fa} {fn : List He.DefD} {K : PySem.W.Frag} {mg : Str → Option Value} {base : Heap}
theorem Ct.calL (C : Ct fa fn K mg base) (i j : Nat) {x : Str} {a : Arguments} {b : List Stmt} {sc : Scope} (hd : fn[i]? = some ⟨(x, none), x, x, a, b, sc, [], []⟩) (hj : fa[j]? = some (.glo x)) {N ps : List Str} {k : Nat} {sp : Sp} (S : FnScope N ps sc)
    (hb : ∀ (kV doc pm : Value) (an : Option Addr) (cdv ct : Value) (us : List Value), us.length = ps.length → bindArgs (PySem.W.fnOf x x a b sc .none kV doc pm an cdv ct) ⟨us, []⟩ = pure (ps.zip us))
    (len : ∀ vs H Q E, sp vs H Q E → vs.length = ps.length)
    (hbody : ∀ (cdv : Value) (A : Around) (outer : List Env) (s : Shared) (H : Hp) (vs : List V) (Q : VK) (E : XK), cdv = .ref (He.codeOf K (x, none)) → (A.deeper (envOfC x sc s.heap.objs.size (He.fAd K (x, none)) cdv)).guards = some [] → Room k (A.deeper (envOfC x sc s.heap.objs.size (He.fAd K (x, none)) cdv)) → sp vs H Q E →
      ∃ t, PSs (cxOf (L2.CX P w) P w K mg base N x sc (He.fAd K (x, none)) cdv A outer s H E) b t ∧ t { nx := fun _ H' => Q .non H', rt := Q } (start N vs) H) : CalG P w K mg base (k + 1) x ps sp := by
  obtain ⟨fd, F⟩ := C.says.def_ i hd
  exact ⟨_, fd, He.glo_ok C.kin C.glob (C.says.fact j hj), F.kp, fnL_of F S len hbody, FunD.bindsN F hb⟩
end
/-- the def that calls its lambda in a try -/
def Ref (K : PySem.W.Frag) (mg : Str → Option Value) (x : Str) (C : Addr) (f ret : Str) : Prop :=
  ∃ (g : Addr) (oc : Value) (od : Option Addr) (osl : Array (Option Value)) (pg : Arguments) (bg : List Stmt) (sg : Scope) (dV kV doc pm cdv ct : Value) (an : Option Addr) (a n : Str),
    K.lookup g = some ⟨oc, od, .func (PySem.W.fnOf x x pg bg sg dV kV doc pm an cdv ct), osl⟩ ∧ PySem.W.keepIn K (.ref g) = true ∧ PySem.W.codeIn K cdv x = true ∧ mg x = some (.ref g) ∧ L2.Binds K (PySem.W.fnOf x x pg bg sg dV kV doc pm an cdv ct) [a] [] ∧
      FnScope [a, n] [a] sg ∧ sg.names.lookup a = some .local ∧ ((a == ("__debug__" : Str)) = false ∧ (a == ("__classdict__" : Str)) = false) ∧ ∀ X : Cx, X.K = K → X.mg = mg → ∀ q, LamX.GivesTo X [a, n] x sg g cdv bg a q (TTref C f ret)
theorem pe_ref {X : Cx} {T : List (Addr × Str)} {x f ret : Str} {CS c P : Addr} {k j : Nat} {params : Arguments} {body : Expr} {scope : Scope} {t : XK → TE} {p lpos pos : Pos} (R : Ref X.K X.mg x CS f ret) (TB : LamX.TabB X.base X.mg c P) (hcode : X.env.code = .ref c) (hT : T = [(P, X.env.qual ++ "<lambda>")])
    (hr : Room j X.A) (hk : k + 2 ≤ j) (L : LamX.LamS X.env.scope scope) (hdef : defaultsOf params X.env = ([], [])) (hbind : ∀ (q : Str) (cl : List (Str × Addr)) (pm cv ctv : Value), bindArgs (PySem.W.kla_fn "<lambda>" q params body scope cl pm cv ctv) ⟨[], []⟩ = pure [])
    (hbody : ∀ (A : Around) (outer : List Env) (s : Shared) (H : Hp) (E : XK) (f c' : Addr), Room k (A.deeper (LamX.lamEnv X scope s.heap.objs.size f c')) → PE (LamX.lamCx X A outer s H E scope f c') body (t E))
    (hg : Gl X x := by rfl) (hdb : (x == ("__debug__" : Str)) = false := by decide) : PE X (.Call (.Name x p) [.Lambda params body scope lpos] [] pos) (LamX.tLam T (TTref CS f ret) t) := by
  obtain ⟨g, oc, od, osl, pg, bg, sg, dV, kV, doc, pm, cdv, ct, an, a, n, lk, kp, hcg, hm, hb, Sg, hla, ⟨d1, d2⟩, G⟩ := R
  refine LamX.pe_lamcall (c := c) (P := P) hg hm kp lk hcg hb Sg rfl (.inl hla) (G X rfl rfl _) TB hcode (by rw [hT]; exact List.mem_singleton.mpr rfl) (fun q hq _ => by rw [hT] at hq; rw [List.mem_singleton.mp hq]) (hr.mono hk) L hdef hbind hbody hdb d1 d2
theorem r_ref {T : List (Addr × Str)} {CS : Addr} {f ret : Str} {t : XK → TE} {σ : St} {H : Hp} {Q : VK} (hT : LamX.Tabs T H) (h : ∀ H1, ExN H H1 → LamX.Tabs T H1 → t (fun cls d H' => cls = .ref CS ∧ ∃ dd v, d = some dd ∧ H' dd = some (.xd [(f, v)]) ∧ Q v H') σ H1 fun _ H' => Q (.str ret) H') : LamX.tLam T (TTref CS f ret) t σ H Q := ⟨hT, fun H1 e1 e2 => h H1 e1 e2⟩
/-! ### keywords only -/
/-- such a def by its keywords, in any order -/
def CalK (P : Program) (w : World) (K : PySem.W.Frag) (mg : Str → Option Value) (base : Heap) (k : Nat) (x : Str) (ks : List Str) (sp : Sp) (gV : List V → List V) : Prop :=
  ∃ f fd ps g, mg x = some (.ref f) ∧ PySem.W.keepIn K (.ref f) = true ∧ FnOk P w K mg base (L2.CX P w) k f fd ps sp ∧ KBn K fd ps 0 ks g (fun _ zs => gV zs)
theorem pe_kw0 {X : Cx} {k j : Nat} {x : Str} {ks : List Str} {sp : Sp} {gV : List V → List V} {E : XK} {p pos : Pos} {kws : List Keyword} {tk : TA} (c : CalK X.prog X.w X.K X.mg X.base k x ks sp gV) (hr : Room j X.A) (hk : k ≤ j) (hx : Passes (L2.CX X.prog X.w) X E) (hkw : PK X kws tk)
    (hg : Gl X x := by rfl) (hall : (backToKw pos (keywordEach kws X.env)).all (·.1.isSome) = true := by rfl) (hks : (backToKw pos (keywordEach kws X.env)).filterMap (·.1) = ks := by rfl) (hdb : (x == ("__debug__" : Str)) = false := by decide)
    (hpl : ((backTo pos (starEach [] X.env)).any (·.1) || (backToKw pos (keywordEach kws X.env)).any (·.1.isNone)) = false := by rfl) : PE X (.Call (.Name x p) [] kws pos) (fun σ H Q => tk σ H fun zs H1 => zs.length = ks.length ∧ sp (gV zs) H1 Q E) := by
  obtain ⟨f, fd, ps, g, h1, h2, F, b⟩ := c
  refine ⟨fun pins s σ H Q I h => wpAny_Call_Name_kw (ld_glob I hg h1 ?_ hdb)⟩
  refine PySem.W.callWith_KW0 (h₀ := X.base) I.ok.mod.kin h2 hall (thn (hkw.run pos pins s σ H _ I h) fun ws s2 ⟨zs, H2, I2, rz, l2, q2⟩ => ⟨I2.kIn, ?_⟩) hpl
  rw [hks]
  exact run_fnN F (hr.mono hk) b hx I2 .nil rz rfl l2 q2
end PB

/-! PX: isinstance of a caught exception that bears a dict; defaults; texts in lists. -/
namespace PB
open PySem PySem.Spec L2
open PyProof.Rows hiding St
section
open PySem.W PySem.Calls
variable {prog : Program} {w : World} {A : Around} {E : Value → Shared → Prop} {K : PySem.W.Frag} {x D : Addr} {ox od : Obj}
/-- e.__class__ of such an exception -/
theorem class_of_exc (T : L2.ExcC K D) {g0 : Array GenState} {d0 : Drawn} {t0 : Nat} {os0 : OsState} {hp : Heap} {Q : Option Value → Shared → Prop} (kin : K.In hp) (at_ : InstAt hp x ox D (some od)) (q : Q (some (.ref D)) ⟨hp, g0, d0, t0 + 1, os0⟩) :
    wpAny (model prog w) A (getAttr? (.ref x) "__class__") Q E ⟨hp, g0, d0, t0, os0⟩ := by
  have isC : (clsIn K D).isSome = true := by
    obtain ⟨cd, hc, _⟩ := any_some T.hd
    rw [hc]; rfl
  have fnd := looks_find (M := model prog w) kin at_ (findObj_data (od := od) isC T.ha T.hn T.ht)
  have typ := at_.type (M := model prog w)
  have gat := looks_findIn (M := model prog w) kin T.hg
  have non := looks_findIn (M := model prog w) kin T.hk
  have ins : Looks (model prog w) hp (isInstance (.ref x) (.type "BaseException")) true := typ.andThen (looks_subIn kin T.hs)
  have own : (Value.builtin "BaseException.__getattribute__" == Value.builtin "object.__getattribute__") = false := by decide +kernel
  unfold getAttr? getAttrBy? getAttrBy
  refine wpAny_bind (wpAny_mkText (wpAny_bind (wpAny_attempt (wpAny_holding (wpAny_bind (typ.at (wpAny_bind (gat.at ?_))))))))
  show wpAny _ _ (if (onTheHeap (Value.ref D) && (Value.builtin "BaseException.__getattribute__" == Value.builtin "object.__getattribute__")) = true then _ else _) _ _ _
  rw [own, Bool.and_false, if_neg Bool.false_ne_true]
  unfold getAttrByItsOwn hookBefore
  refine wpAny_bind ?_
  rw [if_pos (show onTheHeap (Value.ref D) = true from rfl)]
  refine non.at (wpAny_bind (wpAny_attempt (wpAny_holding ?_)))
  unfold callGetattribute
  rw [show (false && onTheHeap (Value.builtin "BaseException.__getattribute__")) = false from rfl, if_neg Bool.false_ne_true]
  unfold boundAndCalled
  rw [PySem.F.excAttr_ValueError.ga.bind (.ref x)]
  refine wpAny_bind (wpAny_pure ?_)
  show wpAny _ _ (call (.builtin "BaseException.__getattribute__") [.ref x, .str "__class__" t0]) _ _ _
  refine wpAny_call (codeAny_call_builtin PySem.F.excAttr_ValueError.ga.plain PySem.F.entry_bexc_ga ?_)
  refine @check_slot (model prog w) _ _ ⟨hp, g0, d0, t0 + 1, os0⟩ "BaseException.__getattribute__" "BaseException" "__getattribute__" (.ref x) [.str "__class__" t0] [] _ (by decide +kernel) (by decide +kernel) ins (PySem.F.args_bexc_ga (.ref x) (.str "__class__" t0)) ?_
  unfold Builtin.«object.__getattribute__»
  refine wpAny_bind (wpAny_of_eq (a := ((Value.ref x : Value), [Value.str "__class__" t0])) (by first | rfl | (simp only [slotArgs]; rfl)) (wpAny_bind (wpAny_pure (wpAny_bind (typ.at (wpAny_bind (fnd.at ?_)))))))
  show wpAny _ _ (holding [Value.builtin "object.__class__"] (call (.builtin "getset_descriptor.__get__") [.builtin "object.__class__", .ref x, .ref D]) >>= ret) _ _ _
  refine wpAny_bind (wpAny_holding (wpAny_call (class_get (s := ⟨hp, g0, d0, t0 + 1, os0⟩) (ox := ox) (od := some od) kin at_ T.hm (wpAny_pure ?_))))
  show wpAny _ _ (handedOut (.ref D)) _ _ _
  rw [handedOut_of (v := .ref D) rfl]
  first
    | exact wpAny_pure (wpAny_pure q)
    | exact wpAny_pure q
    | exact wpAny_pure (wpAny_bind (wpAny_pure (wpAny_pure q)))
theorem kit_exc (T : L2.ExcC K D) : KitX K (.ref x) (.ref D) (fun h => ∃ od, InstAt h x ox D (some od)) := by
  obtain ⟨cd, hc, _⟩ := any_some T.hd
  have look : ∃ c d sl, K.lookup D = some ⟨c, d, .cls cd, sl⟩ := by
    unfold clsIn at hc
    split at hc
    · rename_i c d cd' sl ho
      cases hc
      exact ⟨c, d, sl, ho⟩
    · cases hc
  obtain ⟨c, d, sl, ho⟩ := look
  refine ⟨fun _ _ _ ⟨_, I⟩ => I.type, fun _ _ X _ A' Q' E' s' k q => ?_, fun h tp dd its n sl' X htp => ?_, fun X ⟨od, I⟩ q => ?_⟩
  · unfold isType loadHead
    exact wpAny_bind (wpAny_loadPart (k _ _ (X _ _ ho)) (wpAny_pure q))
  · refine Bool.eq_false_iff.mpr fun z => ?_
    cases beq_iff_eq.mp z
    cases (X _ _ ho).symm.trans htp
  · exact class_of_exc T X I q
end
/-- isinstance(e, c), e the exception that the suite holds, its dict at d -/
def rIsX (K : PySem.W.Frag) (D a : Addr) (cls : Value) (d : Option Addr) : List V → Hp → VK → Prop := fun xs H Q => cls = .ref D ∧ ∃ (c : V) (cv : Value) (b : Bool) (dd : Addr) (fs : List (Str × V)), xs = [.ref a, c] ∧ (∀ u, RelV c u → u = cv) ∧ PySem.W.kitOne K (.ref D) cv = some b ∧ d = some dd ∧ H dd = some (.xd fs) ∧ Q (.bl b) H
theorem k_isX {X : Cx} {K : PySem.W.Frag} {a D : Addr} {cls : Value} {d : Option Addr} {oe : Obj} {pn : List (Addr × Obj)} (eK : X.K = K) (C : ExcC K D) (hz : Zc cls d oe) (hf : ∃ vs, oe.data = .fields vs) : CallR (X.suite a ((a, oe) :: pn)) (.builtin "isinstance") (rIsX K D a cls d) := by
  subst eK
  intro pins s σ H xs us Q I r h
  obtain ⟨rfl, c, cv, b, dd, fs, rfl, hcv, e, rfl, hd, q⟩ := h
  obtain ⟨u0, u1, rfl, r0, r1⟩ := vals2 r
  obtain rfl : u0 = Value.ref a := r0
  obtain rfl := hcv _ r1
  obtain ⟨hget, _⟩ := I.pin (a, oe) (List.mem_append.mpr (.inl List.mem_cons_self))
  obtain ⟨vs, hv⟩ := hf
  have hx : ObjOk X.prog X.w H s.heap dd (.xd fs) := I.hok dd _ hd
  obtain ⟨mA, hns, _⟩ := hx
  obtain ⟨od, ho, _⟩ := lookIn_ns hns
  have J : PySem.W.InstAt s.heap a oe D (some od) := ⟨hget, hz.1, by unfold PySem.W.notCls; rw [hv] <;> rfl, by rw [hz.2]; exact ho⟩
  exact PySem.W.kia_one (kit_exc C) I.kIn ⟨od, J⟩ e (fun z => nomatch z) fun tk => ⟨.bl b, H, I.kept (t' := tk) fun _ _ z => z, rfl, q⟩
def excCB (K : PySem.W.Frag) (D : Addr) : Bool := eqS (PySem.W.findIn K (.ref D) "__getattribute__") (some (some (.builtin "BaseException.__getattribute__"))) && (eqS (PySem.W.findIn K (.ref D) "__getattr__") (some none) && (decide (PySem.W.subIn K (.ref D) (.type "BaseException") = some true) &&
  (PySem.W.hasDictIn K D && (eqS (PySem.W.findIn K (.ref D) "__class__") (some (some (.builtin "object.__class__"))) && (eqS (PySem.W.specialIn K (.builtin "object.__class__") "__get__") (some (some (.builtin "getset_descriptor.__get__"))) &&
  (decide (PySem.W.takesIn K (.builtin "object.__class__") = some true) && decide (PySem.W.mroIn K D (.type "object") = some true)))))))
theorem excCB_ok {K : PySem.W.Frag} {D : Addr} (h : excCB K D = true) : ExcC K D := by
  unfold excCB at h
  simp only [Bool.and_eq_true, eqS, decide_eq_true_eq] at h
  obtain ⟨h1, h2, h3, h4, h5, h6, h7, h8⟩ := h
  exact ⟨h1, h2, h3, h4, h5, h6, h7, h8⟩
/-! ### defs with defaults -/
def CalD (P : Program) (w : World) (K : PySem.W.Frag) (mg : Str → Option Value) (base : Heap) (k : Nat) (x : Str) (ps : List Str) (dvs : List V) (sp : Sp) : Prop :=
  ∃ f fd ds, mg x = some (.ref f) ∧ PySem.W.keepIn K (.ref f) = true ∧ FnOk P w K mg base (L2.CX P w) k f fd ps sp ∧ Binds K fd ps ds ∧ Vals dvs ds
theorem pe_fD {X : Cx} {k j : Nat} {x : Str} {ps : List Str} {dvs : List V} {sp : Sp} {E : XK} {p pos : Pos} {e : Expr} {es : List Expr} {t : TA} (c : CalD X.prog X.w X.K X.mg X.base k x ps dvs sp) (hr : Room j X.A) (hk : k ≤ j) (hx : Passes (L2.CX X.prog X.w) X E) (ha : PA X (e :: es) t)
    (hg : Gl X x := by rfl) (hdb : (x == ("__debug__" : Str)) = false := by decide) (he : starEach (e :: es) X.env = (false, eval e X.env) :: starEach es X.env := by rfl) (hpl : (backTo pos (starEach es X.env)).any (·.1) = false := by rfl) :
    PE X (.Call (.Name x p) (e :: es) [] pos) (tCall sp dvs E t) := by
  obtain ⟨f, fd, ds, h1, h2, F, b, v⟩ := c
  exact pe_call F (hr.mono hk) hg h1 h2 b v hx ha hdb he hpl
theorem r_callD {sp : Sp} {dvs : List V} {E : XK} {tr : TA} {σ : St} {H : Hp} {Q : VK} (h : tr σ H fun vs H1 => sp (vs ++ dvs) H1 Q E) : tCall sp dvs E tr σ H Q := h
section
variable {P : Program} {w : World} {fa : List He.Fa} {fn : List He.DefD} {K : PySem.W.Frag} {mg : Str → Option Value} {base : Heap}
/-- a def whose keyword-only parameters have defaults, these not written -/
theorem Ct.calD (C : Ct fa fn K mg base) (i j n : Nat) {x : Str} {a : Arguments} {b : List Stmt} {sc : Scope} {kw : List (Str × He.Dv)} (hd : fn[i]? = some ⟨(x, none), x, x, a, b, sc, [], kw⟩) (hj : fa[j]? = some (.glo x)) {N ps : List Str} {k : Nat} {sp : Sp} (S : FnScope N ps sc)
    (hk : kw ≠ []) (hn : n + kw.length = ps.length)
    (hb : ∀ (D : Addr) (doc pm : Value) (an : Option Addr) (cdv ct : Value) (us ks : List Value), us.length = n → ks.length = kw.length → KwChain D ((kw.map (·.1)).zip ks) (bindArgs (PySem.W.fnOf x x a b sc .none (.ref D) doc pm an cdv ct) ⟨us, []⟩) (ps.zip (us ++ ks)))
    (len : ∀ vs H Q E, sp vs H Q E → vs.length = ps.length)
    (hbody : ∀ (f : Addr) (cdv : Value) (A : Around) (outer : List Env) (s : Shared) (H : Hp) (vs : List V) (Q : VK) (E : XK), Room k (A.deeper (envOfC x sc s.heap.objs.size f cdv)) → sp vs H Q E →
      ∃ t, PSs (cxOf (L2.CX P w) P w K mg base N x sc f cdv A outer s H E) b t ∧ t { nx := fun _ H' => Q .non H', rt := Q } (start N vs) H) : CalD P w K mg base (k + 1) x ps (kw.map fun q => q.2.v K) sp := by
  obtain ⟨fd, F⟩ := C.says.def_ i hd
  have F' : FunD K x x a b sc [] (kw.map fun q => (q.1, q.2.v K)) (He.fAd K (x, none)) fd := F
  obtain ⟨ds, v, bb⟩ := FunD.binds0 (ps := ps) F' n (fun z => hk (List.map_eq_nil_iff.mp z)) (by rw [List.length_map]; exact hn) (fun D doc pm an cdv ct us ks h1 h2 => by
    rw [List.length_map] at h2
    have := hb D doc pm an cdv ct us ks h1 h2
    rw [List.map_map]
    exact this)
  rw [List.map_map] at v
  exact ⟨_, fd, ds, He.glo_ok C.kin C.glob (C.says.fact j hj), F.kp, FunD.ok F' S len fun cdv A outer s H vs Q E hr h => hbody _ cdv A outer s H vs Q E hr h, bb, v⟩
/-- a def without defaults, by keywords alone -/
theorem Ct.calK (C : Ct fa fn K mg base) (i j : Nat) {x : Str} {a : Arguments} {b : List Stmt} {sc : Scope} (hd : fn[i]? = some ⟨(x, none), x, x, a, b, sc, [], []⟩) (hj : fa[j]? = some (.glo x)) {N ps ks : List Str} {k : Nat} {sp : Sp} {g : List Value → List Value} {gV : List V → List V} (S : FnScope N ps sc)
    (hrel : ∀ (zs : List V) (ws : List Value), Vals zs ws → Vals (gV zs) (g ws))
    (hb : ∀ (kV doc pm : Value) (an : Option Addr) (cdv ct : Value) (ws : List Value), ws.length = ks.length → bindArgs (PySem.W.fnOf x x a b sc .none kV doc pm an cdv ct) ⟨[], ks.zip ws⟩ = pure (ps.zip (g ws)))
    (len : ∀ vs H Q E, sp vs H Q E → vs.length = ps.length)
    (hbody : ∀ (f : Addr) (cdv : Value) (A : Around) (outer : List Env) (s : Shared) (H : Hp) (vs : List V) (Q : VK) (E : XK), Room k (A.deeper (envOfC x sc s.heap.objs.size f cdv)) → sp vs H Q E →
      ∃ t, PSs (cxOf (L2.CX P w) P w K mg base N x sc f cdv A outer s H E) b t ∧ t { nx := fun _ H' => Q .non H', rt := Q } (start N vs) H) : CalK P w K mg base (k + 1) x ks sp gV := by
  obtain ⟨fd, F⟩ := C.says.def_ i hd
  obtain ⟨oc, od, dV, kV, doc, pm, an, cdv, ct, osl, rfl, lk, hcd, hD, hK⟩ := F.ex
  have dn : dV = .none := by
    rcases hD with ⟨_, e⟩ | ⟨e, _⟩
    · exact e
    · exact absurd rfl e
  subst dn
  refine ⟨_, _, ps, fun _ ws => g ws, He.glo_ok C.kin C.glob (C.says.fact j hj), F.kp, FunD.ok F S len fun cdv A outer s H vs Q E hr h => hbody _ cdv A outer s H vs Q E hr h, ⟨fun s us ws _ l1 l2 => ?_, fun _ r => hrel _ _ r⟩⟩
  obtain rfl := List.length_eq_zero_iff.mp l1
  exact .of_eq (hb kV doc pm an cdv ct ws l2)
end
/-! ### calls within a try -/
theorem pe_fS {X : Cx} {W : WX} {k j : Nat} {x : Str} {ps : List Str} {sp : Sp} {p pos : Pos} {e : Expr} {es : List Expr} {t : TA} (c : Cal X.prog X.w X.K X.mg X.base k x ps sp) (hr : Room j X.A) (hk : k ≤ j) (tk : Takes X W) (ha : PA X (e :: es) t)
    (hg : Gl X x := by rfl) (hdb : (x == ("__debug__" : Str)) = false := by decide) (he : starEach (e :: es) X.env = (false, eval e X.env) :: starEach es X.env := by rfl) (hpl : (backTo pos (starEach es X.env)).any (·.1) = false := by rfl) :
    PE X (.Call (.Name x p) (e :: es) [] pos) (tCallS sp (WE W) t) := by
  obtain ⟨f, fd, h1, h2, F, b⟩ := c
  exact pe_callS F (hr.mono hk) hg h1 h2 b (fun σ => passAt tk σ) ha hdb he hpl
theorem pe_kw0S {X : Cx} {W : WX} {k j : Nat} {x : Str} {ks : List Str} {sp : Sp} {gV : List V → List V} {p pos : Pos} {kws : List Keyword} {tk : TA} (c : CalK X.prog X.w X.K X.mg X.base k x ks sp gV) (hr : Room j X.A) (hk : k ≤ j) (tw : Takes X W) (hkw : PK X kws tk)
    (hg : Gl X x := by rfl) (hall : (backToKw pos (keywordEach kws X.env)).all (·.1.isSome) = true := by rfl) (hks : (backToKw pos (keywordEach kws X.env)).filterMap (·.1) = ks := by rfl) (hdb : (x == ("__debug__" : Str)) = false := by decide)
    (hpl : ((backTo pos (starEach [] X.env)).any (·.1) || (backToKw pos (keywordEach kws X.env)).any (·.1.isNone)) = false := by rfl) : PE X (.Call (.Name x p) [] kws pos) (fun σ H Q => tk σ H fun zs H1 => zs.length = ks.length ∧ sp (gV zs) H1 Q (WE W σ)) := by
  obtain ⟨f, fd, ps, g, h1, h2, F, b⟩ := c
  refine ⟨fun pins s σ H Q I h => wpAny_Call_Name_kw (ld_glob I hg h1 ?_ hdb)⟩
  refine PySem.W.callWith_KW0 (h₀ := X.base) I.ok.mod.kin h2 hall (thn (hkw.run pos pins s σ H _ I h) fun ws s2 ⟨zs, H2, I2, rz, l2, q2⟩ => ⟨I2.kIn, ?_⟩) hpl
  rw [hks]
  have r2 := b.rel (vs := []) (us := []) .nil rz
  refine wpAny_call (codeAny_mono (F.run X.A X.stack s2 H2 ⟨[], ks.zip ws⟩ (g [] ws) (gV zs) Q (WE W σ) (hr.mono hk) I2.env0 (b.to s2 [] ws I2.kIn rfl (rz.length.symm.trans l2)) r2 q2) fun r s' hq => ?_)
  match r, hq with
  | .error er, hq => exact passAt tw σ pins H2 s2 er s' I2 hq
  | .ok (.ret u), hq => exact I2.after hq
  | .ok .next, hq => exact hq.elim
  | .ok .brk, hq => exact hq.elim
  | .ok .cont, hq => exact hq.elim
def tKw0S (n : Nat) (sp : Sp) (gV : List V → List V) (W : WX) (tk : TA) : TE := fun σ H Q => tk σ H fun zs H1 => zs.length = n ∧ sp (gV zs) H1 Q (WE W σ)
theorem r_callS {sp : Sp} {E : St → XK} {t : TA} {σ : St} {H : Hp} {Q : VK} (h : t σ H fun vs H1 => sp vs H1 Q (E σ)) : tCallS sp E t σ H Q := h
/-- a list of texts and a list of texts -/
theorem dp_S {K : PySem.W.Frag} {H : Hp} : ∀ xs : List Str, DpAll K H (xs.map V.str) (xs.map PyData.str)
  | [] => .nil
  | x :: xs => .cons (.str x) (dp_S xs)
theorem eqv_S : ∀ xs ys : List Str, PyData.eqvAll (xs.map PyData.str) (ys.map PyData.str) = decide (xs = ys)
  | [], [] => by simp only [List.map_nil, PyData.eqvAll, decide_true]
  | [], _ :: _ => by simp only [List.map_nil, List.map_cons, PyData.eqvAll]; rfl
  | _ :: _, [] => by simp only [List.map_nil, List.map_cons, PyData.eqvAll]; rfl
  | x :: xs, y :: ys => by
    have := eqv_S xs ys
    simp only [List.map_cons, PyData.eqvAll, PyData.eqv, this]
    by_cases h1 : x = y <;> by_cases h2 : xs = ys <;> simp [h1, h2]
theorem r_eqSS {K : PySem.W.Frag} {H : Hp} {a b : Addr} {xs ys : List Str} {Q : VK} (h1 : SqL K H a (xs.map V.str)) (h2 : SqL K H b (ys.map V.str)) (s1 : SeqAt.shaped (.list (xs.map .str)) = true) (s2 : SeqAt.shaped (.list (ys.map .str)) = true) (q : Q (.bl (decide (xs = ys))) H) : rEqA K (.ref a) (.ref b) H Q :=
  .inr ⟨_, _, .lst h1 (dp_S xs), .lst h2 (dp_S ys), s1, s2, by simp only [PyData.eqv, eqv_S]; exact q⟩
end PB

/-! PJ: texts compared; a search for the first. -/
namespace PB
open PySem PySem.Spec L2
open PyProof.Rows hiding St
section
variable {K : PySem.W.Frag} {H : Hp} {Q : VK} {x y : Str}
theorem dec_str : decide (V.str x = V.str y) = decide (x = y) := by
  rw [Bool.eq_iff_iff]
  simp
theorem r_eqZ (q : Q (.bl (decide (x = y))) H) : rEqA K (.str x) (.str y) H Q := .inl ⟨rfl, by rw [dec_str]; exact q⟩
theorem r_neZ (q : Q (.bl (!decide (x = y))) H) : rNeA K (.str x) (.str y) H Q := .inl ⟨rfl, by rw [dec_str]; exact q⟩
/-- is in a list or a tuple of flat things -/
theorem r_inF {v : V} {a : Addr} {xs : List V} (h : SqT K H a xs) (f1 : flatV v = true) (f2 : xs.all flatV = true) (q : Q (.bl (inV v xs)) H) : rInA K v (.ref a) H Q := .inl ⟨a, xs, rfl, .inr h, f1, f2, q⟩
theorem r_inFL {v : V} {a : Addr} {xs : List V} (h : SqL K H a xs) (f1 : flatV v = true) (f2 : xs.all flatV = true) (q : Q (.bl (inV v xs)) H) : rInA K v (.ref a) H Q := .inl ⟨a, xs, rfl, .inl h, f1, f2, q⟩
end
/-- the first of n that is found -/
def srch {α : Type} (f : Nat → Option α) : Nat → Option α
  | 0 => none
  | n + 1 => match srch f n with
    | some r => some r
    | none => f n
theorem srch_none {α : Type} {f : Nat → Option α} {n : Nat} (h : srch f n = none) (e : f n = none) : srch f (n + 1) = none := by
  show (match srch f n with | some r => some r | none => f n) = none
  rw [h]; exact e
theorem srch_more {α : Type} {f : Nat → Option α} {n : Nat} {r : α} (h : srch f n = some r) : ∀ m, n ≤ m → srch f m = some r
  | 0, hm => by
    obtain rfl : n = 0 := by omega
    exact h
  | m + 1, hm => by
    by_cases c : n = m + 1
    · rw [← c]; exact h
    · show (match srch f m with | some r => some r | none => f m) = some r
      rw [srch_more h m (by omega)]
theorem srch_some {α : Type} {f : Nat → Option α} {n m : Nat} {r : α} (h : srch f n = none) (e : f n = some r) (hm : n < m) : srch f m = some r := by
  refine srch_more (n := n + 1) ?_ m hm
  show (match srch f n with | some r => some r | none => f n) = some r
  rw [h]; exact e
end PB
namespace PB
open PySem PySem.Spec L2
open PyProof.Rows hiding St
/-- a test that answers b -/
theorem r_ifA {tt : TT} {t u : TS} {D : Ends} {σ : St} {H : Hp} (b : Bool) (h : ∀ R : Bool → Hp → Prop, R b H → tt σ H R) (q : if b = true then t D σ H else u D σ H) : tIfS tt t u D σ H := h _ q
/-- heaps: all but d and the tables stands -/
def EN (d : Addr) (H H' : Hp) : Prop := ∀ b o, b ≠ d → H b = some o → (∀ ps, o ≠ .tbl ps) → H' b = some o
theorem EN.b {d : Addr} {H H' : Hp} (e : ExB d H H') : EN d H H' := fun b o n h _ => e b o n h
theorem EN.n {d : Addr} {H H' : Hp} (e : ExN H H') : EN d H H' := fun b o _ h t => e b o h t
theorem EN.e {d : Addr} {H H' : Hp} (e : Ex H H') : EN d H H' := fun b o _ h _ => e b o h
theorem EN.tr {d : Addr} {H1 H2 H3 : Hp} (a : EN d H1 H2) (b : EN d H2 H3) : EN d H1 H3 := fun x o n h t => b x o n (a x o n h t) t
theorem tabs_exb {T : List (Addr × Str)} {d : Addr} {xs : List V} {H H' : Hp} (e : ExB d H H') (hd : H d = some (.lst xs)) (t : LamX.Tabs T H) : LamX.Tabs T H' := fun p hp => by
  obtain ⟨ps, h1, h2, h3⟩ := t p hp
  refine ⟨ps, e _ _ (fun z => by rw [z, hd] at h1; cases h1) h1, h2, fun pos cv hc => ?_⟩
  obtain ⟨c, e1, e2⟩ := h3 pos cv hc
  exact ⟨c, e1, e _ _ (fun z => by rw [z, hd] at e2; cases e2) e2⟩
theorem Dice.tabs {T : List (Addr × Str)} {n : Nat} {d : Addr} {H H' : Hp} (h : Dice n H d) (e : ExB d H H') (t : LamX.Tabs T H) : LamX.Tabs T H' := by
  obtain ⟨x, y, z, h, _⟩ := h
  exact tabs_exb e h t
theorem sqL_en {K : PySem.W.Frag} {H H' : Hp} {a d : Addr} {xs : List V} {n : Nat} (e : EN d H H') (hn : a ≠ d) (h : SqL K H a xs) : SqL K H' a xs := by
  rcases h with (h | ⟨o, h⟩) | h
  · exact .inl (.inl (e _ _ hn h fun _ z => by cases z))
  · exact .inl (.inr ⟨o, e _ _ hn h fun _ z => by cases z⟩)
  · exact .inr h
/-- an int tuple's repr -/
theorem r_reprT {K : PySem.W.Frag} {H : Hp} {a : Addr} {ns : List Int} {Q : VK} (h : SqT K H a (ns.map V.int)) (s1 : (PyData.tuple (dI ns)).showable = true) (s2 : (PyData.tuple (dI ns)).hasDict = false) (s3 : (PyData.tuple (dI ns)).shown.length ≤ sizeLine) (s4 : (PyData.tuple (dI ns)).depth ≤ 60) (q : Q (.str (PyData.tuple (dI ns)).shown) H) : rRepr K [.ref a] H Q :=
  ⟨a, _, rfl, dp_t h, s1, s2, s3, s4, q⟩
theorem r_xf {a C : Addr} {cls : Value} {d : Option Addr} {f : Str} {te : TE} {σ : St} {H : Hp} {Q : VK} (h : te σ H fun x H1 => x = .ref a ∧ cls = .ref C ∧ ∃ (dd : Addr) (fs : List (Str × V)) (v : V), d = some dd ∧ H1 dd = some (.xd fs) ∧ fs.lookup f = some v ∧ Q v H1) : tXf a cls d C f te σ H Q := h
theorem sqL_fresh_en {K : PySem.W.Frag} {H H1 H' : Hp} {a d : Addr} {xs : List V} (f : H d = none) (e1 : Ex H H1) (e : EN d H1 H') (h : SqL K H a xs) : SqL K H' a xs := by
  have ne : ∀ {o : HO}, H a = some o → a ≠ d := fun h z => by rw [z, f] at h; cases h
  rcases h with (h | ⟨o, h⟩) | h
  · exact .inl (.inl (e _ _ (ne h) (e1 _ _ h) fun _ z => by cases z))
  · exact .inl (.inr ⟨o, e _ _ (ne h) (e1 _ _ h) fun _ z => by cases z⟩)
  · exact .inr h
end PB

/-! PY: zip whose tuples go to a name: the last one may still be there, or not. -/
namespace PB
open PySem PySem.Spec L2
open PyProof.Rows hiding St
abbrev ZipO (h : Heap) (z TI TO : Addr) (f0 f1 : Value) : Prop :=
  h.get? z = some { cls := .type "zip", dict := none, data := .fields #[f0, f1, .bool false, .ref TI, .ref TO], slots := #[] }
/-- what the zip knows of its last tuple -/
def Last (f0 f1 : Value) : Prop := f0 = .none ∨ ∃ (T : Nat) (f : Bool), f0 = rawInt T ∧ f1 = .bool f
def ZipG (h : Heap) (z TI TO : Addr) : Prop := ∃ f0 f1, ZipO h z TI TO f0 f1 ∧ Last f0 f1
section
variable {prog : Program} {w : World} {A : Around} {E : Value → Shared → Prop} {s : Shared} {z TI TO i1 i2 : Addr} {fp1 fp2 : List Addr} {n1 n2 i : Nat} {P1 P2 : Nat → Value → Prop} {St1 St2 : Nat → Heap → Prop} {a1 a2 f0 f1 : Value}
theorem lookAlive {a : Addr} {Q : Option Obj → Shared → Prop} (h : Q (s.heap.get? a) s) : wpAny (model prog w) A (loadIfAlive a) Q E s := fun _ _ _ => h
theorem zip_asks {Q : Bool → Shared → Prop} (hz : ZipO s.heap z TI TO f0 f1) (hl : Last f0 f1) (h : ∀ b h' f1', ZipO h' z TI TO f0 f1' → Last f0 f1' → Heap.SameBut z s.heap h' → Q b { s with heap := h' }) :
    wpAny (model prog w) A (Builtin.SmallTypes.ownedTupleIsFree (.ref z)) Q E s := by
  unfold Builtin.SmallTypes.ownedTupleIsFree
  rcases hl with rfl | ⟨T, f, rfl, rfl⟩
  · exact wpAny_bind (wpAny_field hz rfl (x := .none) rfl (wpAny_pure (h true s.heap f1 hz (.inl rfl) (Heap.SameBut.refl _ _))))
  · refine wpAny_bind (wpAny_field hz rfl (x := rawInt T) rfl ?_)
    show wpAny _ _ (loadIfAlive ((T : Int).toNat) >>= _) _ _ _
    refine wpAny_bind (lookAlive ?_)
    cases hT : s.heap.get? ((T : Int).toNat) with
    | none =>
      simp only [Option.isNone_none, if_true]
      exact wpAny_pure (h true s.heap _ hz (.inr ⟨T, f, rfl, rfl⟩) (Heap.SameBut.refl _ _))
    | some o =>
      simp only [Option.isNone_some, Bool.false_eq_true, if_false]
      refine wpAny_bind (wpAny_field hz rfl (x := .bool f) rfl ?_)
      cases f with
      | true =>
        rw [if_neg (show ¬ ((Value.bool true != Value.bool true) = true) from Bool.false_ne_true)]
        exact wpAny_pure (h false s.heap _ hz (.inr ⟨T, _, rfl, rfl⟩) (Heap.SameBut.refl _ _))
      | false =>
        rw [if_pos (show (Value.bool false != Value.bool true) = true from rfl)]
        exact wpAny_bind (wpAny_setField_rec hz (by simp) fun h₁ hz₁ hs₁ => wpAny_pure (h false h₁ _ hz₁ (.inr ⟨T, _, rfl, rfl⟩) hs₁))
theorem ZipG.of {h : Heap} (hz : ZipO h z TI TO f0 f1) (l : Last f0 f1) : ZipG h z TI TO := ⟨f0, f1, hz, l⟩
theorem updTup {T : Addr} {x : Value} {k : Nat} {Q : Unit → Shared → Prop} (hT : IsTupOf2 s.heap T a1 a2)
    (h : ∀ h', h'.get? T = some { cls := .type "tuple", data := .seq ((#[a1, a2] : Array Value).setIfInBounds k x) } → Heap.SameBut T s.heap h' → Q () { s with heap := h' }) :
    wpAny (model prog w) A (updateSeq T (·.setIfInBounds k x)) Q E s := updateSeq_IsTupOf2 hT h
/-- the next pair, whatever became of the last one -/
theorem zipG_item {Q : Value → Shared → Prop} (S : ZipSep2 z TI TO i1 i2 fp1 fp2) (D1 : Draws prog w A i1 fp1 n1 P1 St1) (D2 : Draws prog w A i2 fp2 n2 P2 St2)
    (hz : ZipG s.heap z TI TO) (hTI : IsTupOf2 s.heap TI (.ref i1) (.ref i2)) (hTO : ∃ a1 a2, IsTupOf2 s.heap TO a1 a2) (st1 : St1 i s.heap) (st2 : St2 i s.heap) (hlt1 : i < n1) (hlt2 : i < n2)
    (hQ : ∀ x1 x2 h' tk, P1 i x1 → P2 i x2 → ZipG h' z TI TO → (∃ a1 a2, IsTupOf2 h' TO a1 a2) → St1 (i + 1) h' → St2 (i + 1) h' → IsTupOf2 h' s.heap.objs.size x1 x2 →
      (∀ c o, c ≠ z → c ≠ TO → c ≠ i1 → c ≠ i2 → s.heap.get? c = some o → h'.get? c = some o) → Q (.ref s.heap.objs.size) { s with heap := h', toks := tk }) :
    wpAny (model prog w) A (Builtin.«zip.__next__» ⟨[.ref z], []⟩) (fun fin s' => ∃ v, fin = .done (.ret v) ∧ Q v s') E s := by
  obtain ⟨f0, f1, hz, hl⟩ := hz
  obtain ⟨a1, a2, hTO⟩ := hTO
  obtain ⟨hp, g, d, tk0, os⟩ := s
  show wpAny _ _ (field (.ref z) 2 >>= _) _ _ _
  refine wpAny_bind (wpAny_field hz rfl (x := .bool false) rfl ?_)
  show wpAny _ _ (field (.ref z) 3 >>= _) _ _ _
  refine wpAny_bind (wpAny_field hz rfl (x := .ref TI) rfl ?_)
  refine wpAny_bind (wpAny_seqItems hTI rfl ?_)
  show wpAny _ _ (Builtin.SmallTypes.ownedTupleIsFree (.ref z) >>= _) _ _ _
  refine wpAny_bind (zip_asks hz hl fun b q f1' hzq hlq hsq => ?_)
  replace hsq : Heap.SameBut z hp q := hsq
  have hTOq : IsTupOf2 q TO a1 a2 := hsq.extBut _ _ S.TOz hTO
  have s1q : St1 i q := D1.over st1 hsq S.zf1
  have s2q : St2 i q := D2.over st2 hsq S.zf2
  have szq : q.objs.size = hp.objs.size := hsq.1
  cases b with
  | true =>
    simp only [if_true]
    refine wpAny_bind (wpAny_rule ?_)
    refine wpAny_bind (wpAny_field (s := ⟨q, g, d, tk0, os⟩) hzq rfl (x := .ref TO) rfl ?_)
    refine wpAny_bind (wpAny_setField_rec (s := ⟨q, g, d, tk0, os⟩) hzq (by simp) fun g0 hz0 hs0 => ?_)
    replace hz0 : ZipO g0 z TI TO .ellipsis f1' := hz0
    replace hs0 : Heap.SameBut z q g0 := hs0
    refine wpAny_bind ?_
    simp only [List.zipIdx_cons, List.zipIdx_nil, List.forIn_cons, List.forIn_nil]
    refine wpAny_bind (wpAny_bind (wpAny_onRaise ?_))
    show wpAny _ _ (Builtin.SmallTypes.nextOf (.ref i1) >>= _) _ _ ⟨g0, g, d, tk0, os⟩
    refine wpAny_bind (D1.item i _ _ _ hlt1 (D1.over s1q hs0 S.zf1) fun x1 p1 tk1 hx1 sn1 hp1 => wpAny_pure ?_)
    replace hp1 : Heap.SameBut i1 g0 p1 := hp1
    have hU1 : IsTupOf2 p1 TO a1 a2 := hp1.extBut _ _ S.Ti1 (hs0.extBut _ _ S.TOz hTOq)
    refine wpAny_bind (wpAny_seqItems (s := ⟨p1, g, d, tk1, os⟩) hU1 rfl ?_)
    refine wpAny_bind (updTup (s := ⟨p1, g, d, tk1, os⟩) hU1 fun g1 hT1 hs1 => ?_)
    replace hT1 : IsTupOf2 g1 TO x1 a2 := hT1
    replace hs1 : Heap.SameBut TO p1 g1 := hs1
    refine wpAny_bind (wpAny_letGo (wpAny_pure ?_))
    refine wpAny_bind (wpAny_bind (wpAny_onRaise ?_))
    show wpAny _ _ (Builtin.SmallTypes.nextOf (.ref i2) >>= _) _ _ ⟨g1, g, d, tk1, os⟩
    refine wpAny_bind (D2.item i _ _ _ hlt2 (D2.over (D2.over (D2.over s2q hs0 S.zf2) hp1 S.sep1_2) hs1 S.Tf2) fun x2 p2 tk2 hx2 sn2 hp2 => wpAny_pure ?_)
    replace hp2 : Heap.SameBut i2 g1 p2 := hp2
    have hU2 : IsTupOf2 p2 TO x1 a2 := hp2.extBut _ _ S.Ti2 hT1
    refine wpAny_bind (wpAny_seqItems (s := ⟨p2, g, d, tk2, os⟩) hU2 rfl ?_)
    refine wpAny_bind (updTup (s := ⟨p2, g, d, tk2, os⟩) hU2 fun g2 hT2 hs2 => ?_)
    replace hT2 : IsTupOf2 g2 TO x1 x2 := hT2
    replace hs2 : Heap.SameBut TO p2 g2 := hs2
    refine wpAny_bind (wpAny_letGo (wpAny_pure (wpAny_pure ?_)))
    refine wpAny_bind (wpAny_seqItems (s := ⟨g2, g, d, tk2, os⟩) hT2 rfl ?_)
    refine wpAny_bind (wpAny_newTuple ?_)
    have hsz : g2.objs.size = hp.objs.size := by rw [hs2.1, hp2.1, hs1.1, hp1.1, hs0.1, szq]
    have hzz : ZipO g2 z TI TO .ellipsis f1' := (hs2.extBut _ _ S.TOz.symm (hp2.extBut _ _ S.zi2 (hs1.extBut _ _ S.TOz.symm (hp1.extBut _ _ S.zi1 hz0))))
    have hkk : ∀ c o, c ≠ z → c ≠ TO → c ≠ i1 → c ≠ i2 → hp.get? c = some o → g2.get? c = some o := fun c o cz cT c1 c2 e =>
      (hs2.extBut _ _ cT (hp2.extBut _ _ c2 (hs1.extBut _ _ cT (hp1.extBut _ _ c1 (hs0.extBut _ _ cz (hsq.extBut _ _ cz e))))))
    have hj1 : St1 (i + 1) g2 := (D1.over (D1.over (D1.over sn1 hs1 S.Tf1) hp2 S.sep2_1) hs2 S.Tf1)
    have hj2 : St2 (i + 1) g2 := (D2.over sn2 hs2 S.Tf2)
    have hzlt : z < g2.objs.size := Heap.lt_size hzz
    show wpAny _ _ (Builtin.SmallTypes.ownedTupleHandOut (.ref z) (.ref g2.objs.size) >>= _) _ _ ⟨g2.push { cls := .type "tuple", data := .seq #[x1, x2] }, g, d, tk2, os⟩
    refine wpAny_bind ?_
    unfold Builtin.SmallTypes.ownedTupleHandOut
    have hz₆ : ZipO (g2.push { cls := .type "tuple", data := .seq #[x1, x2] }) z TI TO .ellipsis f1' := Heap.get?_push_of_some _ hzz
    refine wpAny_bind (wpAny_setField_rec hz₆ (by simp) fun h₇ hz₇ hs₇ => ?_)
    replace hz₇ : ZipO h₇ z TI TO (rawInt g2.objs.size) f1' := hz₇
    refine wpAny_setField_rec hz₇ (by simp) fun h₈ hz₈ hs₈ => ?_
    replace hz₈ : ZipO h₈ z TI TO (rawInt g2.objs.size) (.bool false) := hz₈
    replace hs₇ : Heap.SameBut z (g2.push { cls := .type "tuple", data := .seq #[x1, x2] }) h₇ := hs₇
    replace hs₈ : Heap.SameBut z h₇ h₈ := hs₈
    have up : ∀ c o, c ≠ z → g2.get? c = some o → h₈.get? c = some o := fun c o c1 e => hs₈.extBut _ _ c1 (hs₇.extBut _ _ c1 (Heap.get?_push_of_some _ e))
    have hT₈ : IsTupOf2 h₈ g2.objs.size x1 x2 := hs₈.extBut _ _ (Nat.ne_of_gt hzlt) (hs₇.extBut _ _ (Nat.ne_of_gt hzlt) (Heap.get?_push_size _ rfl))
    refine wpAny_pure ⟨_, rfl, ?_⟩
    show Q (.ref g2.objs.size) ⟨h₈, g, d, tk2, os⟩
    rw [hsz] at hT₈ ⊢
    exact hQ x1 x2 h₈ tk2 hx1 hx2 (.of hz₈ (.inr ⟨_, _, rfl, rfl⟩)) ⟨_, _, up _ _ S.TOz hT2⟩ (D1.frame _ _ _ hj1 fun b hb o e => up b o (fun q => S.zf1 (q ▸ hb)) e) (D2.frame _ _ _ hj2 fun b hb o e => up b o (fun q => S.zf2 (q ▸ hb)) e) hT₈ fun c o cz cT c1 c2 e => up c o cz (hkk c o cz cT c1 c2 e)
  | false =>
    simp only [Bool.false_eq_true, if_false]
    refine wpAny_bind ?_
    rw [← Array.forIn_toList]
    simp only [List.forIn_cons, List.forIn_nil]
    refine wpAny_bind (wpAny_bind (wpAny_holding ?_))
    show wpAny _ _ (Builtin.SmallTypes.nextOf (.ref i1) >>= _) _ _ ⟨q, g, d, tk0, os⟩
    refine wpAny_bind (D1.item i _ _ _ hlt1 s1q fun x1 p1 tk1 hx1 sn1 hp1 => wpAny_pure ?_)
    replace hp1 : Heap.SameBut i1 q p1 := hp1
    refine wpAny_pure ?_
    refine wpAny_bind (wpAny_bind (wpAny_holding ?_))
    show wpAny _ _ (Builtin.SmallTypes.nextOf (.ref i2) >>= _) _ _ ⟨p1, g, d, tk1, os⟩
    refine wpAny_bind (D2.item i _ _ _ hlt2 (D2.over s2q hp1 S.sep1_2) fun x2 p2 tk2 hx2 sn2 hp2 => wpAny_pure ?_)
    replace hp2 : Heap.SameBut i2 p1 p2 := hp2
    refine wpAny_pure (wpAny_pure ?_)
    show wpAny _ _ (newTuple [x1, x2] >>= _) _ _ ⟨p2, g, d, tk2, os⟩
    refine wpAny_bind (wpAny_newTuple ?_)
    have hsz : p2.objs.size = hp.objs.size := by rw [hp2.1, hp1.1, szq]
    have hzz : ZipO p2 z TI TO f0 f1' := hp2.extBut _ _ S.zi2 (hp1.extBut _ _ S.zi1 hzq)
    have hTT : IsTupOf2 p2 TO a1 a2 := hp2.extBut _ _ S.Ti2 (hp1.extBut _ _ S.Ti1 hTOq)
    have hkk : ∀ c o, c ≠ z → c ≠ TO → c ≠ i1 → c ≠ i2 → hp.get? c = some o → p2.get? c = some o := fun c o cz cT c1 c2 e =>
      hp2.extBut _ _ c2 (hp1.extBut _ _ c1 (hsq.extBut _ _ cz e))
    have hj1 : St1 (i + 1) p2 := D1.over sn1 hp2 S.sep2_1
    have up : ∀ c o, p2.get? c = some o → (p2.push { cls := .type "tuple", data := .seq #[x1, x2] }).get? c = some o := fun c o e => Heap.get?_push_of_some _ e
    have hT₈ : IsTupOf2 (p2.push { cls := .type "tuple", data := .seq #[x1, x2] }) p2.objs.size x1 x2 := Heap.get?_push_size _ rfl
    refine wpAny_pure ⟨_, rfl, ?_⟩
    show Q (.ref p2.objs.size) ⟨p2.push { cls := .type "tuple", data := .seq #[x1, x2] }, g, d, tk2, os⟩
    rw [hsz] at hT₈ ⊢
    exact hQ x1 x2 _ tk2 hx1 hx2 (.of (up _ _ hzz) hlq) ⟨_, _, up _ _ hTT⟩ (D1.frame _ _ _ hj1 fun b hb o e => up b o e) (D2.frame _ _ _ sn2 fun b hb o e => up b o e) hT₈ fun c o cz cT c1 c2 e => up c o (hkk c o cz cT c1 c2 e)
theorem zipG_end {Q : Fin → Shared → Prop} (S : ZipSep2 z TI TO i1 i2 fp1 fp2) (D1 : Draws prog w A i1 fp1 n1 P1 St1) (D2 : Draws prog w A i2 fp2 n2 P2 St2)
    (hz : ZipG s.heap z TI TO) (hTI : IsTupOf2 s.heap TI (.ref i1) (.ref i2)) (hTO : ∃ a1 a2, IsTupOf2 s.heap TO a1 a2) (st1 : St1 i s.heap) (st2 : St2 i s.heap) (hle1 : i ≤ n1) (hle2 : i ≤ n2) (hend : i = n1 ∨ i = n2)
    (hE : ∀ h' tk e, (∀ c o, c ≠ z → c ≠ TO → c ≠ i1 → c ≠ i2 → s.heap.get? c = some o → h'.get? c = some o) → (∃ o, h'.get? e = some o ∧ o.cls = .type "StopIteration") → E (.ref e) { s with heap := h', toks := tk }) :
    wpAny (model prog w) A (Builtin.«zip.__next__» ⟨[.ref z], []⟩) Q E s := by
  obtain ⟨f0, f1, hz, hl⟩ := hz
  obtain ⟨a1, a2, hTO⟩ := hTO
  obtain ⟨hp, g, d, tk0, os⟩ := s
  show wpAny _ _ (field (.ref z) 2 >>= _) _ _ _
  refine wpAny_bind (wpAny_field hz rfl (x := .bool false) rfl ?_)
  show wpAny _ _ (field (.ref z) 3 >>= _) _ _ _
  refine wpAny_bind (wpAny_field hz rfl (x := .ref TI) rfl ?_)
  refine wpAny_bind (wpAny_seqItems hTI rfl ?_)
  show wpAny _ _ (Builtin.SmallTypes.ownedTupleIsFree (.ref z) >>= _) _ _ _
  refine wpAny_bind (zip_asks hz hl fun b q f1' hzq hlq hsq => ?_)
  replace hsq : Heap.SameBut z hp q := hsq
  have hTOq : IsTupOf2 q TO a1 a2 := hsq.extBut _ _ S.TOz hTO
  have s1q : St1 i q := D1.over st1 hsq S.zf1
  have s2q : St2 i q := D2.over st2 hsq S.zf2
  cases b with
  | true =>
    simp only [if_true]
    refine wpAny_bind (wpAny_rule ?_)
    refine wpAny_bind (wpAny_field (s := ⟨q, g, d, tk0, os⟩) hzq rfl (x := .ref TO) rfl ?_)
    refine wpAny_bind (wpAny_setField_rec (s := ⟨q, g, d, tk0, os⟩) hzq (by simp) fun g0 hz0 hs0 => ?_)
    replace hz0 : ZipO g0 z TI TO .ellipsis f1' := hz0
    replace hs0 : Heap.SameBut z q g0 := hs0
    refine wpAny_bind ?_
    simp only [List.zipIdx_cons, List.zipIdx_nil, List.forIn_cons, List.forIn_nil]
    refine wpAny_bind (wpAny_bind (wpAny_onRaise ?_))
    show wpAny _ _ (Builtin.SmallTypes.nextOf (.ref i1) >>= _) _ _ ⟨g0, g, d, tk0, os⟩
    by_cases hlt1 : i < n1
    · refine wpAny_bind (D1.item i _ _ _ hlt1 (D1.over s1q hs0 S.zf1) fun x1 p1 tk1 hx1 sn1 hp1 => wpAny_pure ?_)
      replace hp1 : Heap.SameBut i1 g0 p1 := hp1
      have hU1 : IsTupOf2 p1 TO a1 a2 := hp1.extBut _ _ S.Ti1 (hs0.extBut _ _ S.TOz hTOq)
      refine wpAny_bind (wpAny_seqItems (s := ⟨p1, g, d, tk1, os⟩) hU1 rfl ?_)
      refine wpAny_bind (updTup (s := ⟨p1, g, d, tk1, os⟩) hU1 fun g1 hT1 hs1 => ?_)
      replace hs1 : Heap.SameBut TO p1 g1 := hs1
      refine wpAny_bind (wpAny_letGo (wpAny_pure ?_))
      have hi2 : i = n2 := by omega
      refine wpAny_bind (wpAny_bind (wpAny_onRaise ?_))
      show wpAny _ _ (Builtin.SmallTypes.nextOf (.ref i2) >>= _) _ _ ⟨g1, g, d, tk1, os⟩
      refine wpAny_bind (D2.done ⟨g1, g, d, tk1, os⟩ _ _ (by rw [← hi2]; exact (D2.over (D2.over (D2.over s2q hs0 S.zf2) hp1 S.sep1_2) hs1 S.Tf2)) fun r e hq he => ?_)
      replace hq : Heap.ExtBut i2 g1 r := hq
      obtain ⟨oe, hoe, hce⟩ := he
      replace hoe : r.get? e = some oe := hoe
      have hzr : ZipO r z TI TO .ellipsis f1' := hq _ _ S.zi2 (hs1.extBut _ _ S.TOz.symm (hp1.extBut _ _ S.zi1 hz0))
      have hez : e ≠ z := fun x => by subst x; rw [hzr] at hoe; cases hoe; simp at hce
      refine wpAny_setField_rec (s := ⟨r, g, d, tk1, os⟩) hzr (by simp) fun q' _ hq' => ?_
      replace hq' : Heap.SameBut z r q' := hq'
      exact hE q' tk1 e (fun c o cz cT c1 c2 x => hq'.extBut _ _ cz (hq _ _ c2 (hs1.extBut _ _ cT (hp1.extBut _ _ c1 (hs0.extBut _ _ cz (hsq.extBut _ _ cz x)))))) ⟨oe, hq'.extBut _ _ hez hoe, hce⟩
    · have hi1 : i = n1 := by omega
      refine wpAny_bind (D1.done ⟨g0, g, d, tk0, os⟩ _ _ (by rw [← hi1]; exact (D1.over s1q hs0 S.zf1)) fun r e hq he => ?_)
      replace hq : Heap.ExtBut i1 g0 r := hq
      obtain ⟨oe, hoe, hce⟩ := he
      replace hoe : r.get? e = some oe := hoe
      have hzr : ZipO r z TI TO .ellipsis f1' := hq _ _ S.zi1 hz0
      have hez : e ≠ z := fun x => by subst x; rw [hzr] at hoe; cases hoe; simp at hce
      refine wpAny_setField_rec (s := ⟨r, g, d, tk0, os⟩) hzr (by simp) fun q' _ hq' => ?_
      replace hq' : Heap.SameBut z r q' := hq'
      exact hE q' tk0 e (fun c o cz cT c1 c2 x => hq'.extBut _ _ cz (hq _ _ c1 (hs0.extBut _ _ cz (hsq.extBut _ _ cz x)))) ⟨oe, hq'.extBut _ _ hez hoe, hce⟩
  | false =>
    simp only [Bool.false_eq_true, if_false]
    refine wpAny_bind ?_
    rw [← Array.forIn_toList]
    simp only [List.forIn_cons, List.forIn_nil]
    refine wpAny_bind (wpAny_bind (wpAny_holding ?_))
    show wpAny _ _ (Builtin.SmallTypes.nextOf (.ref i1) >>= _) _ _ ⟨q, g, d, tk0, os⟩
    by_cases hlt1 : i < n1
    · refine wpAny_bind (D1.item i _ _ _ hlt1 s1q fun x1 p1 tk1 hx1 sn1 hp1 => wpAny_pure ?_)
      replace hp1 : Heap.SameBut i1 q p1 := hp1
      refine wpAny_pure ?_
      have hi2 : i = n2 := by omega
      refine wpAny_bind (wpAny_bind (wpAny_holding ?_))
      show wpAny _ _ (Builtin.SmallTypes.nextOf (.ref i2) >>= _) _ _ ⟨p1, g, d, tk1, os⟩
      refine wpAny_bind (D2.done ⟨p1, g, d, tk1, os⟩ _ _ (by rw [← hi2]; exact D2.over s2q hp1 S.sep1_2) fun r e hq he => ?_)
      replace hq : Heap.ExtBut i2 p1 r := hq
      exact hE r tk1 e (fun c o cz cT c1 c2 x => hq _ _ c2 (hp1.extBut _ _ c1 (hsq.extBut _ _ cz x))) he
    · have hi1 : i = n1 := by omega
      refine wpAny_bind (D1.done ⟨q, g, d, tk0, os⟩ _ _ (by rw [← hi1]; exact s1q) fun r e hq he => ?_)
      replace hq : Heap.ExtBut i1 q r := hq
      exact hE r tk0 e (fun c o cz cT c1 c2 x => hq _ _ c1 (hsq.extBut _ _ cz x)) he
theorem zipG_next_item {Q : Option Value → Shared → Prop} (S : ZipSep2 z TI TO i1 i2 fp1 fp2) (D1 : Draws prog w A.in1 i1 fp1 n1 P1 St1) (D2 : Draws prog w A.in1 i2 fp2 n2 P2 St2)
    (hz : ZipG s.heap z TI TO) (hTI : IsTupOf2 s.heap TI (.ref i1) (.ref i2)) (hTO : ∃ a1 a2, IsTupOf2 s.heap TO a1 a2) (st1 : St1 i s.heap) (st2 : St2 i s.heap) (hlt1 : i < n1) (hlt2 : i < n2)
    (hQ : ∀ x1 x2 h' tk, P1 i x1 → P2 i x2 → ZipG h' z TI TO → (∃ a1 a2, IsTupOf2 h' TO a1 a2) → St1 (i + 1) h' → St2 (i + 1) h' → IsTupOf2 h' s.heap.objs.size x1 x2 →
      (∀ c o, c ≠ z → c ≠ TO → c ≠ i1 → c ≠ i2 → s.heap.get? c = some o → h'.get? c = some o) → Q (some (.ref s.heap.objs.size)) { s with heap := h', toks := tk }) :
    wpAny (model prog w) A (pyNext (.ref z)) Q E s := by
  have hT : s.TypeIs (.ref z) "zip" := by obtain ⟨_, _, hz, _⟩ := hz; exact ⟨_, hz, rfl⟩
  unfold pyNext
  exact wpAny_bind (wpAny_attempt (wpAny_callSpecial?_slot (name := Str.ofString "__next__") hT F.slot_zip_next
    (wpAny_call_entry F.slot_zip_next hT F.entry_zip_next
      (zipG_item S D1 D2 hz hTI hTO st1 st2 hlt1 hlt2 fun x1 x2 h' tk y1 y2 b1 b2 d1 d2 b5 b7 => wpAny_pure (hQ x1 x2 h' tk y1 y2 b1 b2 d1 d2 b5 b7)) (F.args_zip_next_1 _))))
theorem zipG_next_end {Q : Option Value → Shared → Prop} (S : ZipSep2 z TI TO i1 i2 fp1 fp2) (D1 : Draws prog w A.in1 i1 fp1 n1 P1 St1) (D2 : Draws prog w A.in1 i2 fp2 n2 P2 St2)
    (hz : ZipG s.heap z TI TO) (hTI : IsTupOf2 s.heap TI (.ref i1) (.ref i2)) (hTO : ∃ a1 a2, IsTupOf2 s.heap TO a1 a2) (st1 : St1 i s.heap) (st2 : St2 i s.heap) (hle1 : i ≤ n1) (hle2 : i ≤ n2) (hend : i = n1 ∨ i = n2)
    (hQ : ∀ h' tk, (∀ c o, c ≠ z → c ≠ TO → c ≠ i1 → c ≠ i2 → s.heap.get? c = some o → h'.get? c = some o) → Q none { s with heap := h', toks := tk }) : wpAny (model prog w) A (pyNext (.ref z)) Q E s := by
  have hT : s.TypeIs (.ref z) "zip" := by obtain ⟨_, _, hz, _⟩ := hz; exact ⟨_, hz, rfl⟩
  unfold pyNext
  refine wpAny_bind (wpAny_attempt (wpAny_callSpecial?_slot (name := Str.ofString "__next__") hT F.slot_zip_next
    (wpAny_call_entry F.slot_zip_next hT F.entry_zip_next (zipG_end S D1 D2 hz hTI hTO st1 st2 hle1 hle2 hend fun h' tk e hk he => ?_) (F.args_zip_next_1 _))))
  obtain ⟨o, ho, hc⟩ := he
  refine wpAny_bind (wpAny_isInstance (T := "StopIteration") (b := true) ⟨o, ho, hc⟩ isSubtype_stop ?_)
  exact wpAny_pure (hQ _ _ hk)
end
/-- a target that does not unpack -/
def Whole (tg : Expr) : Prop := ∀ it v, letOwnedTupleGo tg it v = pure ()
theorem whole_name {x : Str} {p : Pos} : Whole (.Name x p) := fun _ _ => rfl
theorem turn_whole {P : Program} {w : World} {K : PySem.W.Frag} {tg : Expr} {k1 k2 : Sk} {a b z TI TO i1 i2 : Addr} (wh : Whole tg) (S : ZipSep2 z TI TO i1 i2 [i1, a] [i2, b]) (n1 : a ≠ i1) (n2 : b ≠ i2) :
    Turn P w K tg (ItP K k1 k2 a b) [z, TI, TO, i1, i2] z (fun i h => ZipG h z TI TO ∧ IsTupOf2 h TI (.ref i1) (.ref i2) ∧ (∃ x y, IsTupOf2 h TO x y) ∧ k1.iter h i1 a i ∧ k2.iter h i2 b i) where
  mem := by simp
  obj := fun i h st c hc => by
    obtain ⟨⟨_, _, hz, _⟩, hTI, ⟨x, y, hTO⟩, h1, h2⟩ := st
    simp only [List.mem_cons, List.not_mem_nil, or_false] at hc
    rcases hc with q | q | q | q | q <;> subst q
    · exact ⟨_, hz, fun v q => nomatch q⟩
    · exact ⟨_, hTI, fun v q => nomatch q⟩
    · exact ⟨_, hTO, fun v q => nomatch q⟩
    · exact k1.there h1
    · exact k2.there h2
  keep := fun i h h' st kp => by
    obtain ⟨⟨f0, f1, hz, l⟩, hTI, ⟨x, y, hTO⟩, h1, h2⟩ := st
    exact ⟨⟨f0, f1, kp z (by simp) _ hz, l⟩, kp TI (by simp) _ hTI, ⟨x, y, kp TO (by simp) _ hTO⟩, k1.keep h1 fun o q => kp i1 (by simp) o q, k2.keep h2 fun o q => kp i2 (by simp) o q⟩
  item := by
    intro X hP hw hK hc i pins s σ H E I hf st hg
    subst hP hw hK
    obtain ⟨hz, hTI, hTO, h1, h2⟩ := st
    obtain ⟨xs, ys, x, y, qx, qy, hx, hy⟩ := hg
    obtain ⟨us, r1, p1, la⟩ := k1.inv I qx
    obtain ⟨vs, r2, p2, lb⟩ := k2.inv I qy
    have hh : X.A.in1.handled = none := I.ok.hd hc
    have l1 : i < us.toArray.size := by
      have := (List.getElem?_eq_some_iff.mp hx).1
      rw [r1.length] at this
      simpa using this
    have l2 : i < vs.toArray.size := by
      have := (List.getElem?_eq_some_iff.mp hy).1
      rw [r2.length] at this
      simpa using this
    refine zipG_next_item S (k1.draws hh i1 a n1 us.toArray) (k2.draws hh i2 b n2 vs.toArray) hz hTI hTO ⟨h1, p1⟩ ⟨h2, p2⟩ l1 l2 fun u u2 h' tk e1 e2 hz' hTO' s1' s2' hT kp => ⟨_, rfl, ?_⟩
    rw [wh]
    obtain ⟨h1', _⟩ := s1'
    obtain ⟨h2', _⟩ := s2'
    have new : ObjOk X.prog X.w (upd H s.heap.objs.size (.tup [x, y])) h' s.heap.objs.size (.tup [x, y]) :=
      ⟨by show 2 ≤ sizeLine; decide, [u, u2], .cons (get_of r1 hx e1) (.cons (get_of r2 hy e2) .nil), ⟨_, hT, rfl, _, rfl⟩⟩
    have sub : ∀ c, c ∈ [z, TO, i1, i2] → c ∈ [z, TI, TO, i1, i2] := fun c hc => by
      simp only [List.mem_cons, List.not_mem_nil, or_false] at hc ⊢
      rcases hc with q | q | q | q
      · exact .inl q
      · exact .inr (.inr (.inl q))
      · exact .inr (.inr (.inr (.inl q)))
      · exact .inr (.inr (.inr (.inr q)))
    have kp' : ∀ c o, c ∉ [z, TO, i1, i2] → s.heap.get? c = some o → h'.get? c = some o := fun c o hb q => kp c o (fun e => hb (by simp [e])) (fun e => hb (by simp [e])) (fun e => hb (by simp [e])) (fun e => hb (by simp [e])) q
    have I1 : Inv X pins σ (upd H s.heap.objs.size (.tup [x, y])) { s with heap := h', toks := tk } := I.turnedNew (ch := [z, TO, i1, i2]) kp' (fun c hc => hf c (sub c hc)) (Nat.le_refl _) new
    have hTI' : IsTupOf2 h' TI (.ref i1) (.ref i2) := kp _ _ S.TIz S.TITO S.TIi1 S.TIi2 hTI
    refine wpAny_pure ⟨.ref s.heap.objs.size, _, I1, rfl, ⟨s.heap.objs.size, x, y, rfl, I.hok.fresh (Nat.le_refl _), rfl, fun l hl => by rw [k1.inj I hl qx]; exact hx, fun l hl => by rw [k2.inj I hl qy]; exact hy⟩, ⟨hz', hTI', hTO', h1', h2'⟩, fun c hc => ?_⟩
    have lt : c < s.heap.objs.size := by
      obtain ⟨_, _, hz, _⟩ := hz
      simp only [List.mem_cons, List.not_mem_nil, or_false] at hc
      rcases hc with q | q | q | q | q <;> subst q
      · exact Heap.lt_size hz
      · exact Heap.lt_size hTI
      · obtain ⟨_, _, e⟩ := hTO; exact Heap.lt_size e
      · obtain ⟨_, e, _⟩ := k1.there h1; exact Heap.lt_size e
      · obtain ⟨_, e, _⟩ := k2.there h2; exact Heap.lt_size e
    rw [upd_ne (Nat.ne_of_lt lt)]
    exact (hf c hc).1
  done := by
    intro X hP hw hK hc i pins s σ H E I hf st hg
    subst hP hw hK
    obtain ⟨hz, hTI, hTO, h1, h2⟩ := st
    obtain ⟨xs, ys, qx, qy, hi⟩ := hg
    obtain ⟨us, r1, p1, _⟩ := k1.inv I qx
    obtain ⟨vs, r2, p2, _⟩ := k2.inv I qy
    have hh : X.A.in1.handled = none := I.ok.hd hc
    have l1 : xs.length = us.toArray.size := by rw [List.size_toArray]; exact r1.length
    have l2 : ys.length = vs.toArray.size := by rw [List.size_toArray]; exact r2.length
    have sub : ∀ c, c ∈ [z, TO, i1, i2] → c ∈ [z, TI, TO, i1, i2] := fun c hc => by
      simp only [List.mem_cons, List.not_mem_nil, or_false] at hc ⊢
      rcases hc with q | q | q | q
      · exact .inl q
      · exact .inr (.inr (.inl q))
      · exact .inr (.inr (.inr (.inl q)))
      · exact .inr (.inr (.inr (.inr q)))
    refine zipG_next_end S (k1.draws hh i1 a n1 us.toArray) (k2.draws hh i2 b n2 vs.toArray) hz hTI hTO ⟨h1, p1⟩ ⟨h2, p2⟩ (by omega) (by omega) (by omega) fun h' tk kp => ⟨rfl, ?_⟩
    exact I.turnedL (ch := [z, TO, i1, i2]) (fun c o hb q => kp c o (fun e => hb (by simp [e])) (fun e => hb (by simp [e])) (fun e => hb (by simp [e])) (fun e => hb (by simp [e])) q) (fun c hc => hf c (sub c hc))
  self := fun A i s Q E st h => by
    obtain ⟨⟨_, _, hz, _⟩, _⟩ := st
    have hT : s.TypeIs (.ref z) "zip" := ⟨_, hz, rfl⟩
    refine wpAny_pyIter_slot hT F.slot_zip_iter (wpAny_call_entry F.slot_zip_iter hT F.entry_zip_iter ?_ (F.args_zip_iter_1 _))
    show wpAny _ _ (ret (.ref z)) _ _ s
    exact wpAny_pure ⟨_, rfl, "zip", _, hT, F.slot_zip_next.lookup, h⟩
theorem pi_zipN {X : Cx} {tg e e2 : Expr} {ta : TA} {p pos : Pos} (wh : Whole tg) (hg : Gl X "zip") (hm : X.mg "zip" = none) (ha : PA X [e, e2] ta)
    (hs : starEach [e, e2] X.env = (false, eval e X.env) :: starEach [e2] X.env := by rfl) (hpl : (backTo pos (starEach [e2] X.env)).any (·.1) = false := by rfl) :
    PI X tg (.Call (.Name "zip" p) [e, e2] [] pos) (iZipM X.K ta) := by
  refine ⟨fun pins s σ H R I h => ?_⟩
  refine Call_ (ld_blt I hg hm PyProof.Rows.boot_zip (PyProof.Rows.callWith_type1 (thn (ha.run pos pins s σ H _ I h) fun us s1 ⟨vs, H1, I1, r1, q1⟩ => ?_) hs hpl))
  obtain ⟨k1, k2, a, b, xs, ys, ex, qx, qy, q⟩ := q1
  subst ex
  obtain ⟨u1, u2, rfl, ra, rb⟩ := vals2 r1
  obtain rfl : u1 = Value.ref a := ra
  obtain rfl : u2 = Value.ref b := rb
  obtain ⟨its, _, p1, la⟩ := k1.inv I1 qx
  obtain ⟨its2, _, p2, lb⟩ := k2.inv I1 qy
  refine zip_begins2 (k1.begins a its.toArray) (k2.begins b its2.toArray) p1 p2 fun h' hz hTI hTO e1 e2 _ hk => wpAny_pyIter_zip hz ?_
  have I2 : Inv X pins σ H1 { s1 with heap := h' } := I1.kept (t' := s1.toks) hk
  have S := zip_sep2 (N := s1.heap.objs.size) (fp1 := [a]) (fp2 := [b]) (fun c hc => by rw [List.mem_singleton.mp hc]; exact la) (fun c hc => by rw [List.mem_singleton.mp hc]; exact lb)
  refine ⟨s1.heap.objs.size + 4, [s1.heap.objs.size + 4, s1.heap.objs.size + 2, s1.heap.objs.size + 3, s1.heap.objs.size, s1.heap.objs.size + 1], _, _, H1, rfl, I2, turn_whole wh S (Nat.ne_of_lt la) (Nat.ne_of_lt (Nat.lt_succ_of_lt lb)),
    ⟨⟨_, _, hz, .inl rfl⟩, hTI, ⟨_, _, hTO⟩, k1.start e1, k2.start e2⟩, fun c hc => ?_, q⟩
  have hle : s1.heap.objs.size ≤ c := by
    simp only [List.mem_cons, List.not_mem_nil, or_false] at hc
    rcases hc with z | z | z | z | z <;> rw [z]
    · exact Nat.le_add_right _ _
    · exact Nat.le_add_right _ _
    · exact Nat.le_add_right _ _
    · exact Nat.le_refl _
    · exact Nat.le_add_right _ _
  exact I1.fpOk hle (I1.hok.fresh hle)
end PB

/-! PM: loops over zip by one name; min of a list of data. -/
namespace PB
open PySem PySem.Spec L2
open PyProof.Rows hiding St
section
variable {X : Cx} {K : PySem.W.Frag}
theorem k_zipN {x : Str} {e e2 : Expr} {ta : TA} {p pos tpos : Pos} (eK : X.K = K) (hg : Gl X "zip") (hm : X.mg "zip" = none) (ha : PA X [e, e2] ta)
    (hs : starEach [e, e2] X.env = (false, eval e X.env) :: starEach [e2] X.env := by rfl) (hpl : (backTo pos (starEach [e2] X.env)).any (·.1) = false := by rfl) :
    PI X (.Name x tpos) (.Call (.Name "zip" p) [e, e2] [] pos) (iZipM K ta) := by
  subst eK
  exact pi_zipN whole_name hg hm ha hs hpl
end
section
variable {σ : St} {H : Hp} {D : Ends} {K : PySem.W.Frag} {tb : TS} {n : Nat}
theorem f_zipN {k1 k2 : Sk} {a b : Addr} {xs ys : List V} {j : Nat} (h1 : k1.at K H a xs) (h2 : k2.at K H b ys) (hn : n = min xs.length ys.length) (Pv : Nat → St → Hp → Prop) (h0 : Pv 0 σ H) (hG : ∀ i σ H, i ≤ n → Pv i σ H → k1.at K H a xs ∧ k2.at K H b ys)
    (hs : ∀ (i : Nat) x y T σ H, xs[i]? = some x → ys[i]? = some y → Pv i σ H → H T = none → tb { D with nx := Pv (i + 1), ct := Pv (i + 1), bk := D.nx } (σ.set j (some (.ref T))) (upd H T (.tup [x, y]))) (hd : ∀ σ H, Pv n σ H → D.nx σ H) :
    zQ K (FQ (gName j) tb D σ) [.ref a, .ref b] H :=
  z_P h1 h2 (f_it (walk_P hn) Pv h0 hG (fun i x σ H H' _ p y => by
    obtain ⟨T, u, v, e1, h1, e2, e3, e4⟩ := y
    subst e1 e2
    exact hs i u v T σ H e3 e4 p h1) hd)
end
section
variable {σ : St} {H : Hp} {Q : VK} {K : PySem.W.Frag} {tt : TT} {te : TE} {vs : List Nat}
theorem c_zipN {k1 k2 : Sk} {a b : Addr} {xs ys : List V} {j : Nat} (h1 : k1.at K H a xs) (h2 : k2.at K H b ys) (f : V → V → Option V) (hl : xs.length = ys.length) (hn : xs.length < 16000000) (hG : ∀ H', Ex H H' → k1.at K H' a xs ∧ k2.at K H' b ys)
    (hw : ∀ x, wipe ((wipe σ vs).set j (some x)) vs = wipe σ vs)
    (turn : ∀ x y T H1 (q : VK) (N : Hp → Prop), (x, y) ∈ xs.zip ys → Ex H H1 → H1 T = none → (∀ z H4, f x y = some z → Ex H1 H4 → q z H4) → (∀ H3, f x y = none → Ex H1 H3 → N H3) →
      tt ((wipe σ vs).set j (some (.ref T))) (upd H1 T (.tup [x, y])) fun b H4 => if b = true then te ((wipe σ vs).set j (some (.ref T))) H4 q else N H4)
    (done : ∀ L H', H L = none → Ex H H' → H' L = some (.lst ((xs.zip ys).filterMap fun z => f z.1 z.2)) → Q (.ref L) H') : zQ K (CQ (gName j) tt te vs σ Q) [.ref a, .ref b] H := by
  have hz : (xs.zip ys).length = xs.length := by rw [List.length_zip]; omega
  refine z_P h1 h2 (c_fn (walk_P (n := xs.length) (by omega)) (fun i => (xs.zip ys)[i]?.bind fun z => f z.1 z.2) hn hG (fun i x H1 H2 q N hi e1 y hq hN => ?_) (fun L H' h1 h2 h3 => done L H' h1 h2 ?_))
  · obtain ⟨T, u, v, e2, e3, e4, e5, e6⟩ := y
    subst e2 e4
    have ez : (xs.zip ys)[i]? = some (u, v) := by
      rw [List.getElem?_zip_eq_some]
      exact ⟨e5, e6⟩
    refine ⟨hw _, ?_⟩
    have em : (u, v) ∈ xs.zip ys := List.mem_of_getElem? ez
    refine turn u v T H1 q N em e1 e3 (fun z H4 e7 e8 => hq z H4 (by rw [ez]; exact e7) e8) (fun H3 e7 e8 => hN H3 (by rw [ez]; exact e7) e8)
  · rw [← hz] at h3
    rw [h3]
    rw [range_fm (xs.zip ys) fun z => f z.1 z.2]
theorem c_zipNI {k1 k2 : Sk} {a b : Addr} {gs as : List Int} {j : Nat} (h1 : k1.at K H a (gs.map V.int)) (h2 : k2.at K H b (as.map V.int)) (f : Int → Int → Int) (hl : gs.length = as.length) (hn : gs.length < 16000000)
    (hw : ∀ x, wipe ((wipe σ vs).set j (some x)) vs = wipe σ vs)
    (turn : ∀ x y T H1 (q : VK) (N : Hp → Prop), (x, y) ∈ gs.zip as → Ex H H1 → H1 T = none → (∀ H4, Ex H1 H4 → q (.int (f x y)) H4) →
      tt ((wipe σ vs).set j (some (.ref T))) (upd H1 T (.tup [.int x, .int y])) fun b H4 => if b = true then te ((wipe σ vs).set j (some (.ref T))) H4 q else N H4)
    (done : ∀ L H', H L = none → Ex H H' → H' L = some (.lst (((gs.zip as).map fun p => f p.1 p.2).map V.int)) → Q (.ref L) H') : zQ K (CQ (gName j) tt te vs σ Q) [.ref a, .ref b] H := by
  refine c_zipN h1 h2 (fun u v => match u, v with | .int i, .int j => some (V.int (f i j)) | _, _ => none) (by rw [List.length_map, List.length_map]; exact hl) (by rw [List.length_map]; exact hn) (fun H' e => ⟨k1.ex e h1, k2.ex e h2⟩) hw (fun x y T H1 q N hx e hT hq _ => ?_)
    fun L H' d1 d2 d3 => done L H' d1 d2 (d3.trans (congrArg (fun l => some (HO.lst l)) (zip_I f gs as)))
  obtain ⟨i, j, rfl, rfl, hm⟩ := mem_zipI hx
  exact turn i j T H1 q N hm e hT fun H4 e4 => hq _ H4 rfl e4
end
/-! ### min of data -/
section
open PySem.W
variable {X : Cx}
def rMinD (K : PySem.W.Frag) : List V → Hp → VK → Prop := fun vs H Q => ∃ (a : Addr) (xs : List V) (x : PyData) (ds : List PyData), vs = [.ref a] ∧ SqL K H a xs ∧ DpAll K H xs (x :: ds) ∧ AlikeAll (x :: ds) ∧ PyData.depthAll (x :: ds) ≤ 60 ∧
  ∀ (k : Nat) (v : V), xs[k]? = some v → (x :: ds)[k]? = some (minD x ds) → Q v H
theorem cr_minD {j : Nat} (hr : Room j X.A) (hc : X.calm = true) : CallR X (.builtin "min") (rMinD X.K) := by
  intro pins s σ H vs us Q I r h
  obtain ⟨a, xs, x, ds, rfl, hs, hd, ha, hu, q⟩ := h
  obtain ⟨its, rv, hl, _⟩ := I.list hs
  rw [Vals.ref1 r]
  obtain ⟨as, hR⟩ := Dp.readsAll I (x :: ds) xs its hd rv
  have hun := hr.un
  have hn : its.toArray.size = ds.length + 1 := readsAll_len (h := s.heap) (as := as) hR
  refine call_min_walkH (iter_listW (A := X.A.in1) (I.ok.hd hc) hl.isList fun s₂ e W st hfp hw hk => ?_)
  refine ⟨_, _, _, _, _, _, _, s.heap, _, rfl, W, st, hfp, by omega, hw, hk, cmpIn_lt (A := X.A.in1) (as := as) hR ha (by show X.A.units + 1 + _ < _; omega), fun v s' hP m => ?_⟩
  obtain ⟨h', tk, rfl, hk'⟩ := moved_old e rfl m
  have e1 : its.toArray.size - 1 = ds.length := by omega
  obtain ⟨e3, e2⟩ := argBest_fold dataLt PyData.none x ds ds.length (Nat.le_refl _)
  rw [List.take_length] at e2
  rw [e1] at hP
  generalize argBest (fun i j => dataLt ((x :: ds).getD i PyData.none) ((x :: ds).getD j PyData.none)) ds.length = k at *
  have hP : its.toArray[k]? = some v := hP
  have hlen := rv.length
  have lk : k < xs.length := by
    have := (Array.getElem?_eq_some_iff.mp hP).1
    rw [List.size_toArray] at this
    omega
  have hk2 : xs[k]? = some xs[k] := List.getElem?_eq_getElem lk
  have hx : (x :: ds)[k]? = some (minD x ds) := by
    have l2 : k < (x :: ds).length := by rw [List.length_cons]; omega
    rw [List.getElem?_eq_getElem l2]
    rw [List.getD_eq_getElem?_getD, List.getElem?_eq_getElem l2] at e2
    exact congrArg some e2
  exact ⟨xs[k], H, I.kept hk', get_of rv hk2 hP, q k _ hk2 hx⟩
end
end PB
namespace PB
open PySem PySem.Spec L2
open PyProof.Rows hiding St
theorem k_minR {X : Cx} {K : PySem.W.Frag} {j : Nat} (eK : X.K = K) (hr : Room j X.A) (hc : X.calm = true) : CallR X (.builtin "min") (rMinD K) := by
  subst eK
  exact cr_minD hr hc
end PB
namespace PB
open PySem PySem.Spec L2
open PyProof.Rows hiding St
section
variable {K : PySem.W.Frag} {H : Hp} {Q : VK} {a b : Addr}
/-- a list of rows and an empty one -/
theorem r_eqR0 {vs : List V} {rs : List (List Int)} (h1 : SqL K H a vs) (h3 : Rws K H vs rs) (h2 : SqL K H b []) (q : Q (.bl rs.isEmpty) H) : rEqA K (.ref a) (.ref b) H Q := by
  refine .inr ⟨_, _, .lst h1 h3.dp, .lst h2 .nil, sh_R, (by decide +kernel), ?_⟩
  cases rs with
  | nil => exact q
  | cons r rs => exact q
def minR (r : List Int) (rs : List (List Int)) : List Int := rs.foldl (fun a y => if y < a then y else a) r
theorem minD_R : ∀ (rs : List (List Int)) (r : List Int), PySem.W.minD (.tuple (dI r)) (rs.map fun r => .tuple (dI r)) = .tuple (dI (minR r rs))
  | [], r => rfl
  | s :: rs, r => by
    have ih := minD_R rs (if s < r then s else r)
    unfold PySem.W.minD minR at ih ⊢
    rw [List.map_cons, List.foldl_cons, List.foldl_cons, lt_T, ← ih]
    by_cases c : s < r
    · rw [if_pos c, decide_eq_true c]; rfl
    · rw [if_neg c, decide_eq_false c]; rfl
theorem dI_inj : ∀ {xs ys : List Int}, dI xs = dI ys → xs = ys
  | [], [], _ => rfl
  | [], _ :: _, h => by unfold dI at h; cases h
  | _ :: _, [], h => by unfold dI at h; cases h
  | x :: xs, y :: ys, h => by
    unfold dI at h
    rw [List.map_cons, List.map_cons] at h
    injection h with h1 h2
    injection h1 with h1
    rw [h1, dI_inj (xs := xs) (ys := ys) h2]
theorem ali_R (rs : List (List Int)) : PySem.W.AlikeAll (rs.map fun r => .tuple (dI r)) := by
  refine ⟨fun x hx y hy => ?_, fun x hx => ?_⟩
  · obtain ⟨r, _, rfl⟩ := List.mem_map.mp hx
    obtain ⟨s, _, rfl⟩ := List.mem_map.mp hy
    simp only [PySem.W.alike]
    exact ali_I r s
  · obtain ⟨r, _, rfl⟩ := List.mem_map.mp hx
    exact fun e => nomatch e
/-- the least of some rows -/
theorem r_minR {vs : List V} {r : List Int} {rs : List (List Int)} (h1 : SqL K H a vs) (h3 : Rws K H vs (r :: rs)) (q : ∀ (k : Nat) (v : V), vs[k]? = some v → (r :: rs)[k]? = some (minR r rs) → Row K H v (minR r rs) → Q v H) : rMinD K [.ref a] H Q := by
  refine ⟨a, vs, .tuple (dI r), rs.map fun r => .tuple (dI r), rfl, h1, h3.dp, ali_R (r :: rs), Nat.le_trans (dep_R (r :: rs)) (by decide), fun k v hv hk => ?_⟩
  rw [minD_R] at hk
  have hk' : ((r :: rs).map fun r => PyData.tuple (dI r))[k]? = some (.tuple (dI (minR r rs))) := hk
  rw [List.getElem?_map] at hk'
  obtain ⟨s, hs, e⟩ := Option.map_eq_some_iff.mp hk'
  injection e with e
  have e := dI_inj e
  subst e
  obtain ⟨s', hs', row⟩ := h3.get hv
  rw [hs] at hs'
  cases hs'
  exact q k v hv hs row
end
/-- rows of a range -/
theorem c_rngR {σ : St} {H : Hp} {Q : VK} {K : PySem.W.Frag} {tt : TT} {te : TE} {vs : List Nat} {j m : Nat} {lo : Int} (f : Nat → Option (List Int)) (hm : m < 16000000) (hw : ∀ x, wipe ((wipe σ vs).set j (some x)) vs = wipe σ vs)
    (turn : ∀ (i : Nat) H1 (q : VK) (N : Hp → Prop), i < m → Ex H H1 → (∀ v r H4, f i = some r → Ex H1 H4 → Row K H4 v r → q v H4) → (f i = none → ∀ H4, Ex H1 H4 → N H4) →
      tt ((wipe σ vs).set j (some (.int (lo + i)))) H1 fun b H4 => if b = true then te ((wipe σ vs).set j (some (.int (lo + i)))) H4 q else N H4)
    (done : ∀ L H' us, H L = none → Ex H H' → H' L = some (.lst us) → Rws K H' us ((List.range m).filterMap f) → Q (.ref L) H') : CQ (gName j) tt te vs σ Q (Itr lo m) H := by
  refine c_it walk_range hm (fun _ _ => trivial) (fun i acc H' => Rws K H' acc ((List.range i).filterMap f)) (fun _ _ => .nil) (fun L i acc H1 u u' hL _ p => p.put hL) ?_ ?_
  · rintro i x acc H1 H2 q N hi e1 p ⟨rfl, rfl⟩ hq hN
    have tk : (List.range (i + 1)).filterMap f = (List.range i).filterMap f ++ (f i).toList := by
      rw [List.range_succ, List.filterMap_append]
      congr 1
    refine ⟨hw _, turn i H2 q N hi e1 (fun v r H4 er e4 rw' => hq v H4 e4 ?_) fun en H4 e4 => hN H4 e4 ?_⟩
    · rw [tk, er]
      exact (p.ex e4).snoc rw'
    · rw [tk, en, Option.toList_none, List.append_nil]
      exact p.ex e4
  · intro L acc H' h1 h2 h3 _ h5
    exact done L H' acc h1 h2 h3 h5
end PB
namespace PB
open PySem PySem.Spec L2
open PyProof.Rows hiding St
/-- a tuple of small ints can be shown -/
theorem show_T {ns : List Int} (hl : ns.length ≤ 100) (hb : ∀ n ∈ ns, -1000000 ≤ n ∧ n ≤ 1000000) : (PyData.tuple (dI ns)).showable = true ∧ (PyData.tuple (dI ns)).hasDict = false ∧ (PyData.tuple (dI ns)).shown.length ≤ sizeLine ∧ (PyData.tuple (dI ns)).depth ≤ 60 := by
  have big : ∀ n ∈ ns, n.natAbs.log2 < 1920 := fun n hn => by
    have := hb n hn
    exact PyProof.Rows.shown (N := 1000001) (by omega) (by omega) (by decide)
  have hd : ∀ l : List Int, PyData.hasDictAll (l.map .int) = false := fun l => by
    induction l with
    | nil => rfl
    | cons x l ih => simp only [List.map_cons, PyData.hasDictAll, PyData.hasDict, ih, Bool.or_self]
  have hw : ∀ l : List Int, (∀ n ∈ l, n.natAbs.log2 < 1920) → PyData.weightAll (l.map .int) ≤ 2000 * l.length := fun l => by
    induction l with
    | nil => intro _; exact Nat.le_refl _
    | cons x l ih =>
      intro h
      have h1 := h x List.mem_cons_self
      have h2 := ih fun n hn => h n (List.mem_cons_of_mem _ hn)
      simp only [List.map_cons, PyData.weightAll, PyData.weight, List.length_cons]
      split <;> omega
  refine ⟨?_, ?_, ?_, by rw [dep_t]; decide⟩
  · simp only [PyData.showable]
    exact PyData.showableAll_ints ns big
  · simp only [PyData.hasDict]
    exact hd ns
  · refine Nat.le_trans (PyProof.Rows.shown_le13 ?_ ?_) (show 15728653 ≤ sizeLine by decide)
    · have h1 := hw ns big
      show (PyData.canLay0 _ && decide (PyData.depth _ ≤ 64) && decide (PyData.weight _ ≤ 2 ^ 20)) = true
      rw [Bool.and_eq_true, Bool.and_eq_true, decide_eq_true_eq, decide_eq_true_eq]
      refine ⟨⟨?_, by rw [dep_t]; decide⟩, ?_⟩
      · simp only [PyData.canLay0]
        exact lay_I ns
      · simp only [PyData.weight]
        refine Nat.le_trans h1 ?_
        have : 2000 * ns.length ≤ 2000 * 100 := Nat.mul_le_mul_left _ hl
        omega
    · simp only [PyData.intsShort]
      exact PyProof.Rows.intsShortAll_ints2 ns fun n hn => by have := hb n hn; omega
end PB
namespace K61
open PySem PySem.Spec PyProof.Rows L2
def top (i : Nat) : Stmt := PySem.Challenge.pw_promisedpost_k61_whole_shares_dealt.main.body.getD i (.Pass ⟨0, 0, 0, 0⟩)
def inn (i j : Nat) : Stmt := match top i with
  | .ClassDef (body := b) .. => b.getD j (.Pass ⟨0, 0, 0, 0⟩)
  | s => s
def dd (x : Str) (i : Nat) : He.DefD := ⟨(x, none), x, x, defArgs (top i), defBody (top i), defScope (top i), [], []⟩
def fn : List He.DefD := [dd "is_integer" 4, dd "is_in" 5, dd "demand" 6, dd "are_amounts" 10, dd "level_of" 11, dd "dealt" 12, dd "_law_dice" 14, dd "_law_roll" 15, dd "_law_pick" 16, dd "_law_refused" 17, dd "_law_by_one" 18, dd "_law_right" 19, dd "law" 20]
def fa : List He.Fa := [.glo "is_integer", .glo "is_in", .glo "demand", .glo "are_amounts", .glo "level_of", .glo "dealt", .glo "_law_dice", .glo "_law_roll", .glo "_law_pick", .glo "_law_refused", .glo "_law_by_one", .glo "_law_right", .glo "law", .free "ValueError", .free "all", .free "enumerate", .free "tuple", .free "range", .free "max", .free "isinstance", .free "int", .free "sum", .free "min", .free "bool", .free "zip", .free "len", .free "abs", .free "repr", .free "super", .free "list", .int "MOST_DEALT" (10000), .int "MOST_CLIENTS" (12)]
def ini : List PB.IniD := [⟨"BadArgument", "name", defArgs (inn 2 0), defBody (inn 2 0), defScope (inn 2 0)⟩]
def tf : List He.Defn := [("_law_right", none)]
def ex (K : PySem.W.Frag) : Bool := ini.all (PB.iniB PySem.Challenge.pw_promisedpost_k61_whole_shares_dealt K)
abbrev R : PySem.W.OpenRow := PySem.W.OpenLaw.row PySem.Challenge.rw_promisedpost_k61_whole_shares_dealt
abbrev qv : PySem.Program := PySem.W.view R.prog [20]
def names : List PySem.Str := ["PostError", "BadArgument", "is_integer", "is_in", "demand", "MOST_DEALT", "MOST_CLIENTS", "are_amounts", "level_of", "dealt", "_law_dice", "_law_roll", "_law_pick", "_law_refused", "_law_by_one", "_law_right", "__name__"]
abbrev hk : PySem.W.Hook := PB.hookI 5 fa fn [] tf ini ex
def ob (s : PySem.W.SharedT) : PB.AlI := PB.obsI 5 fa fn [] tf ini ex (HandSHeadRun.getT s)
theorem ob_eq (s : PySem.W.SharedT) : ob s = hk.obs s.abs := PB.obsI_eq (HandSHeadRun.getT_eq s)
theorem run (w : World) : HandSHeadRun.RunEq R qv hk ob 1000 names w := by
  intro os
  kernel_rfl
end K61

section
open PySem PySem.Spec L2 PB
open PyProof.Rows hiding St
local macro_rules | `(tactic| walk_at "ex") => `(tactic| first
  | with_reducible exact Ex.refl _
  | assumption
  | (with_reducible refine Ex.add ?_ (by assumption); walk_at "ex")
  | (with_reducible refine Ex.trans ?_ (by assumption); walk_at "ex"))
local macro_rules | `(tactic| walk_at "hl") => `(tactic| first
  | assumption
  | with_reducible exact sqL_new
  | with_reducible exact sqT_new
  | with_reducible exact upd_same
  | (with_reducible refine sqL_up (by assumption) ?_; walk_at "hl")
  | (with_reducible refine sqT_up (by assumption) ?_; walk_at "hl")
  | (with_reducible refine at_up (by assumption) ?_; walk_at "hl")
  | (with_reducible refine sqL_ex (by assumption) ?_; walk_at "hl")
  | (with_reducible refine sqT_ex (by assumption) ?_; walk_at "hl")
  | (with_reducible refine at_ex (by assumption) ?_; walk_at "hl"))
local macro_rules | `(tactic| walk_at "rd") => `(tactic| first
  | with_reducible refine r_var (by first | rfl | with_unfolding_all rfl) ?_
  | with_reducible refine r_c ?_
  | with_reducible refine r_op ?_
  | with_reducible refine r_cons ?_
  | with_reducible refine r_nil ?_
  | with_reducible refine r_seq ?_
  | with_reducible refine r_set ?_
  | with_reducible refine r_next ?_
  | with_reducible refine r_brk ?_
  | with_reducible refine r_cont ?_
  | with_reducible refine r_ret ?_
  | with_reducible refine r_ifS ?_
  | with_reducible refine r_test ?_
  | with_reducible refine r_B ?_
  | with_reducible refine r_bl ?_
  | with_reducible refine r_andV ?_
  | with_reducible refine r_orV ?_
  | with_reducible refine r_notV ?_
  | with_reducible refine r_and ?_
  | with_reducible refine r_or ?_
  | with_reducible refine r_not ?_
  | with_reducible refine r_if ?_
  | with_reducible refine r_chain ?_
  | with_reducible refine r_callB ?_
  | with_reducible refine r_call ?_
  | with_reducible refine r_addI ?_
  | with_reducible refine r_cmpI ?_
  | with_reducible refine r_eqI ?_
  | with_reducible refine r_neI ?_
  | with_reducible refine r_I0 ?_
  | with_reducible refine r_max2 ?_
  | with_reducible refine r_min2 ?_
  | with_reducible refine r_int1 ?_
  | with_reducible refine r_for ?_
  | with_reducible refine r_lc ?_
  | with_reducible refine r_iSeq ?_
  | with_reducible refine r_iZip ?_
  | with_reducible refine r_iEnum ?_
  | with_reducible refine r_iRng1 ?_
  | with_reducible refine r_iRng2 ?_
  | with_reducible refine r_truB ?_
  | with_reducible refine r_yes ?_
  | with_reducible refine r_tru ?_
  | with_reducible refine r_bm ?_
  | with_reducible refine r_asg ?_
  | with_reducible refine r_gname ?_
  | with_reducible refine r_drop ?_
  | with_reducible refine r_rais ?_
  | with_reducible refine r_aug (by first | rfl | with_unfolding_all rfl) ?_
  | with_reducible refine r_augS ?_
  | with_reducible refine r_ipI ?_
  | with_reducible refine r_gsub ?_
  | with_reducible refine r_sl ?_
  | with_reducible refine r_part ?_
  | with_reducible refine r_nopart ?_
  | with_reducible refine r_parI ?_
  | with_reducible refine r_tup ?_
  | with_reducible refine r_lst ?_
  | with_reducible refine r_par ?_
  | with_reducible refine r_pQ ?_
  | with_reducible refine r_un ?_
  | with_reducible refine r_U ?_
  | refine r_T rfl ?_
  | refine r_F rfl ?_)
local macro_rules | `(tactic| walk_at "rq") => `(tactic| first
  | with_reducible refine r_var (by first | rfl | with_unfolding_all rfl) ?_
  | with_reducible refine r_c ?_
  | with_reducible refine r_op ?_
  | with_reducible refine r_cons ?_
  | with_reducible refine r_nil ?_
  | with_reducible refine r_seq ?_
  | with_reducible refine r_set ?_
  | with_reducible refine r_next ?_
  | with_reducible refine r_brk ?_
  | with_reducible refine r_cont ?_
  | with_reducible refine r_ret ?_
  | with_reducible refine r_test ?_
  | with_reducible refine r_B ?_
  | with_reducible refine r_bl ?_
  | with_reducible refine r_andV ?_
  | with_reducible refine r_orV ?_
  | with_reducible refine r_notV ?_
  | with_reducible refine r_and ?_
  | with_reducible refine r_or ?_
  | with_reducible refine r_not ?_
  | with_reducible refine r_if ?_
  | with_reducible refine r_chain ?_
  | with_reducible refine r_callB ?_
  | with_reducible refine r_call ?_
  | with_reducible refine r_addI ?_
  | with_reducible refine r_cmpI ?_
  | with_reducible refine r_eqI ?_
  | with_reducible refine r_neI ?_
  | with_reducible refine r_I0 ?_
  | with_reducible refine r_max2 ?_
  | with_reducible refine r_min2 ?_
  | with_reducible refine r_int1 ?_
  | with_reducible refine r_for ?_
  | with_reducible refine r_lc ?_
  | with_reducible refine r_iSeq ?_
  | with_reducible refine r_iZip ?_
  | with_reducible refine r_iEnum ?_
  | with_reducible refine r_iRng1 ?_
  | with_reducible refine r_iRng2 ?_
  | with_reducible refine r_truB ?_
  | with_reducible refine r_yes ?_
  | with_reducible refine r_tru ?_
  | with_reducible refine r_bm ?_
  | with_reducible refine r_asg ?_
  | with_reducible refine r_gname ?_
  | with_reducible refine r_drop ?_
  | with_reducible refine r_rais ?_
  | with_reducible refine r_aug (by first | rfl | with_unfolding_all rfl) ?_
  | with_reducible refine r_augS ?_
  | with_reducible refine r_ipI ?_
  | with_reducible refine r_gsub ?_
  | with_reducible refine r_sl ?_
  | with_reducible refine r_part ?_
  | with_reducible refine r_nopart ?_
  | with_reducible refine r_parI ?_
  | with_reducible refine r_tup ?_
  | with_reducible refine r_lst ?_
  | with_reducible refine r_par ?_
  | with_reducible refine r_pQ ?_
  | with_reducible refine r_un ?_
  | with_reducible refine r_U ?_
  | refine r_T rfl ?_
  | refine r_F rfl ?_)

namespace K61
abbrev Cx0 := Ct fa fn
section
variable {P : Program} {w : World} {K : PySem.W.Frag} {mg : Str → Option Value} {base : Heap}
abbrev s_is_integer : Stmt := top 4
theorem sc_is_integer : FnScope ["value"] ["value"] (defScope s_is_integer) := ⟨rfl, rfl, rfl, by decide +kernel, rfl, by decide +kernel, by decide +kernel⟩
def sp_is_integer (K : PySem.W.Frag) : Sp := fun vs H Q _ => ∃ v T, vs = [v] ∧ IsTy K H v T ∧ Q (.bl (isIntV v)) H
theorem ok_is_integer (C : Cx0 K mg base) : Cal P w K mg base 1 "is_integer" ["value"] (sp_is_integer K) := by
  refine C.cal 0 0 rfl rfl sc_is_integer (fun _ _ _ _ _ _ us hl => match us, hl with | [_], _ => rfl) (fun vs H Q E h => ?_) (fun f cdv A outer s H vs Q E hr h => ⟨_, PSs.nox
    (pss_one (ps_ret (pe_and (pe_bi (k_isi (K := K) rfl) (C.free 19) (by decide +kernel) (pa_cons (pv 0) (pa_cons (pe_ty "int" (C.free 20)) pa_nil))) (pe_one (pe_not (pe_bi (k_isi (K := K) rfl) (C.free 19) (by decide +kernel) (pa_cons (pv 0) (pa_cons (pe_ty "bool" (C.free 23)) pa_nil)))))))), ?_⟩)
  · obtain ⟨v, T, rfl, _⟩ := h
    rfl
  · obtain ⟨v, T, rfl, ty, k⟩ := h
    repeat walk_at "rd"
    rcases ty.cases with ⟨rfl, rfl⟩ | ⟨b, rfl, rfl⟩ | ⟨i, rfl, rfl⟩ | ⟨x, rfl, rfl⟩ | ⟨a, rfl, ht⟩
    · exact r_isi (b := false) ty rfl ⟨false, rfl, k⟩
    · refine r_isi (b := true) ty rfl ⟨true, rfl, ?_⟩
      repeat walk_at "rd"
      exact r_isi (b := true) ty rfl ⟨true, rfl, k⟩
    · refine r_isi (b := true) ty rfl ⟨true, rfl, ?_⟩
      repeat walk_at "rd"
      exact r_isi (b := false) ty rfl ⟨false, rfl, k⟩
    · exact r_isi (b := false) ty rfl ⟨false, rfl, k⟩
    · simp only [List.mem_cons, List.not_mem_nil, or_false] at ht
      rcases ht with rfl | rfl | rfl <;> exact r_isi (b := false) ty rfl ⟨false, rfl, k⟩
abbrev s_is_in : Stmt := top 5
theorem sc_is_in : FnScope ["value", "low", "high"] ["value", "low", "high"] (defScope s_is_in) := ⟨rfl, rfl, rfl, by decide +kernel, rfl, by decide +kernel, by decide +kernel⟩
def inB (lo hi : Int) : V → Bool
  | .int i => decide (lo ≤ i) && decide (i ≤ hi)
  | _ => false
theorem inB_yes {lo hi i : Int} (h1 : lo ≤ i) (h2 : i ≤ hi) : inB lo hi (.int i) = true := by
  show (decide (lo ≤ i) && decide (i ≤ hi)) = _
  rw [decide_eq_true h1, decide_eq_true h2]; rfl
theorem inB_int {lo hi i : Int} : inB lo hi (.int i) = true ↔ lo ≤ i ∧ i ≤ hi := by
  show (decide (lo ≤ i) && decide (i ≤ hi)) = true ↔ _
  rw [Bool.and_eq_true, decide_eq_true_eq, decide_eq_true_eq]
def sp_is_in (K : PySem.W.Frag) : Sp := fun vs H Q _ => ∃ v T lo hi, vs = [v, .int lo, .int hi] ∧ IsTy K H v T ∧ Q (.bl (inB lo hi v)) H
theorem ok_is_in (C : Cx0 K mg base) : Cal P w K mg base 2 "is_in" ["value", "low", "high"] (sp_is_in K) := by
  have c_is_integer := ok_is_integer (P := P) (w := w) C
  refine C.cal 1 1 rfl rfl sc_is_in (fun _ _ _ _ _ _ us hl => match us, hl with | [_, _, _], _ => rfl) (fun vs H Q E h => ?_) (fun f cdv A outer s H vs Q E hr h => ⟨_, PSs.nox
    (pss_one (ps_ret (pe_and (pe_f c_is_integer hr (by decide) passL (pa_cons (pv 0) pa_nil)) (pe_one (pe_chain (k_le (K := K) rfl hr) (k_le (K := K) rfl hr) (pv 1) (pv 0) (pv 2)))))), ?_⟩)
  · obtain ⟨v, T, lo, hi, rfl, _⟩ := h
    rfl
  · obtain ⟨v, T, lo, hi, rfl, ty, k⟩ := h
    repeat walk_at "rd"
    refine ⟨v, T, rfl, ty, ?_⟩
    cases v with
    | int i =>
      repeat walk_at "rd"
      by_cases c : lo ≤ i
      · refine r_T (decide_eq_true c) ?_
        repeat walk_at "rd"
        have e : inB lo hi (.int i) = decide (i ≤ hi) := by
          show (decide (lo ≤ i) && decide (i ≤ hi)) = _
          rw [decide_eq_true c, Bool.true_and]
        rw [e] at k
        exact k
      · refine r_F (decide_eq_false c) ?_
        have e : inB lo hi (.int i) = false := by
          show (decide (lo ≤ i) && decide (i ≤ hi)) = _
          rw [decide_eq_false c, Bool.false_and]
        rw [e] at k
        exact k
    | _ => exact ⟨false, rfl, k⟩
abbrev cBad (K : PySem.W.Frag) : Value := .ref (clsA K "BadArgument")
/-- what a refusal of this name leaves -/
def Refuses (K : PySem.W.Frag) (n : Str) (H : Hp) (E : XK) : Prop := ∀ d H', H d = none → Ex H H' → H' d = some (.xd [("name", .str n)]) → E (cBad K) (some d) H'
theorem Refuses.ex {n : Str} {H H' : Hp} {E : XK} (h : Refuses K n H E) (e : Ex H H') : Refuses K n H' E := fun d H2 f e2 a => h d H2 (e.free f) (e.trans e2) a
abbrev OBad (P : Program) (w : World) (K : PySem.W.Frag) (mg : Str → Option Value) (base : Heap) : Prop := Own P w K mg base 1 "BadArgument" "name"
abbrev s_demand : Stmt := top 6
theorem sc_demand : FnScope ["is_good", "name"] ["is_good", "name"] (defScope s_demand) := ⟨rfl, rfl, rfl, by decide +kernel, rfl, by decide +kernel, by decide +kernel⟩
def sp_demand (K : PySem.W.Frag) : Sp := fun vs H Q E => ∃ b n, vs = [.bl b, .str n] ∧ (b = true → Q .non H) ∧ (b = false → Refuses K n H E)
theorem ok_demand (C : Cx0 K mg base) (o_BadArgument : OBad P w K mg base) : Cal P w K mg base 3 "demand" ["is_good", "name"] (sp_demand K) := by
  refine C.cal 2 2 rfl rfl sc_demand (fun _ _ _ _ _ _ us hl => match us, hl with | [_, _], _ => rfl) (fun vs H Q E h => ?_) (fun f cdv A outer s H vs Q E hr h => ⟨_,
    (pss_one (ps_if (pt_not (k_truth (K := K) rfl (pv 0) (by intro _; rfl))) (pss_one (ps_own (K := K) rfl o_BadArgument rfl (takes_of rfl rfl rfl rfl) hr (by decide) passL (pv 1))) pss_nil)), ?_⟩)
  · obtain ⟨b, n, rfl, _⟩ := h
    rfl
  · obtain ⟨b, n, rfl, k1, k2⟩ := h
    repeat walk_at "rd"
    cases b with
    | true =>
      repeat walk_at "rd"
      exact k1 rfl
    | false =>
      repeat walk_at "rd"
      exact r_mkQ fun d H' f e a => k2 rfl d H' f e a

end
end K61

namespace K61
section
variable {P : Program} {w : World} {K : PySem.W.Frag} {mg : Str → Option Value} {base : Heap}
abbrev s_are_amounts : Stmt := top 10
theorem sc_are_amounts : FnScope ["value", "amount"] ["value"] (defScope s_are_amounts) := ⟨rfl, rfl, rfl, by decide +kernel, rfl, by decide +kernel, by decide +kernel⟩
/-- amounts all of them -/
def okA (xs : List V) : Bool := decide (1 ≤ xs.length) && (decide (xs.length ≤ 12) && xs.all (inB 0 10000))
/-- whether v is a tuple of amounts -/
def Am (K : PySem.W.Frag) (H : Hp) (v : V) (b : Bool) : Prop := (∃ T, IsTy K H v T ∧ T ≠ "tuple" ∧ b = false) ∨ ∃ a xs, v = .ref a ∧ SqT K H a xs ∧ (∀ x ∈ xs, ∃ T, IsTy K H x T) ∧ b = okA xs
theorem Am.ex {H H' : Hp} {v : V} {b : Bool} (e : Ex H H') (h : Am K H v b) : Am K H' v b := by
  rcases h with ⟨T, h1, h2⟩ | ⟨a, xs, h1, h2, h3, h4⟩
  · exact .inl ⟨T, h1.ex e, h2⟩
  · exact .inr ⟨a, xs, h1, sqT_ex e h2, fun x hx => let ⟨T, t⟩ := h3 x hx; ⟨T, t.ex e⟩, h4⟩
def sp_are_amounts (K : PySem.W.Frag) : Sp := fun vs H Q _ => ∃ v b, vs = [v] ∧ Am K H v b ∧ ∀ H', Ex H H' → Q (.bl b) H'
theorem all_map (xs : List V) (f : V → Bool) : (xs.map f).all id = xs.all f := by
  rw [List.all_map]; rfl
theorem ok_are_amounts (C : Cx0 K mg base) : Cal P w K mg base 3 "are_amounts" ["value"] (sp_are_amounts K) := by
  have c_is_in := ok_is_in (P := P) (w := w) C
  refine C.cal 3 3 rfl rfl sc_are_amounts (fun _ _ _ _ _ _ us hl => match us, hl with | [_], _ => rfl) (fun vs H Q E h => ?_) (fun f cdv A outer s H vs Q E hr h => ⟨_, PSs.nox
    (pss_cons (ps_if (PW.pt (pw_or (pt_not (k_truth (K := K) rfl (pe_bi (k_isi (K := K) rfl) (C.free 19) (by decide +kernel) (pa_cons (pv 0) (pa_cons (pe_ty "tuple" (C.free 16)) pa_nil))) (by intro _; rfl))) (pw_or1 (pt_not (pt_chain (k_le (K := K) rfl hr) (k_le (K := K) rfl hr) pe_int (pe_bi (k_len (K := K) rfl) (C.free 25) (by decide +kernel) (pa_cons (pv 0) pa_nil)) (pe_gi (C.int 31))))))) (pss_one (ps_ret pe_bl)) pss_nil)
      (pss_one (ps_ret (pe_bi (k_all (K := K) rfl rfl) (C.free 14) (by decide +kernel) (pa_cons (pe_lc (own := [("amount", 1)]) rfl sc_are_amounts.nd (k_seq (K := K) rfl (pv 0)) (blkOk_by (N := ["value", "amount"]) (sc := defScope s_are_amounts) (by decide +kernel)) (fun _ _ _ _ _ => (pg_name (i := 1) sc_are_amounts.nd rfl (Or.inl rfl))) (fun _ _ _ _ _ => pts_nil) (fun _ _ _ _ _ => (pe_f c_is_in hr (by decide) passL (pa_cons (pv 1) (pa_cons pe_int (pa_cons (pe_gi (C.int 30)) pa_nil)))))) pa_nil))))), ?_⟩)
  · obtain ⟨v, b, rfl, _⟩ := h
    rfl
  · obtain ⟨v, b, rfl, hv, k⟩ := h
    repeat walk_at "rd"
    rcases hv with ⟨T, ty, hT, rfl⟩ | ⟨a, xs, rfl, ht, tys, rfl⟩
    · have e : isT T "tuple" = false := by
        unfold isT
        rw [beq_eq_false_iff_ne.mpr hT]
        simp
      refine r_isiK ty (by decide) ?_
      rw [e]
      repeat walk_at "rd"
      exact k H (Ex.refl H)
    · refine r_isT ht ?_
      repeat walk_at "rd"
      refine r_lenT ht ?_
      repeat walk_at "rd"
      by_cases c1 : (1 : Int) ≤ (xs.length : Int)
      · refine r_T (decide_eq_true c1) ?_
        repeat walk_at "rd"
        by_cases c2 : (xs.length : Int) ≤ 12
        · refine r_F (by rw [decide_eq_true c2]; rfl) ?_
          repeat walk_at "rd"
          have e0 : okA xs = xs.all (inB 0 10000) := by
            unfold okA
            rw [decide_eq_true (show 1 ≤ xs.length by omega), decide_eq_true (show xs.length ≤ 12 by omega)]; rfl
          rw [e0] at k
          refine c_seq (k := .t) ht (fun x => some (.bl (inB 0 10000 x))) (by omega) (fun H' e => sqT_ex e ht) (fun x => rfl) ?_ ?_
          · intro x H1 q N hx e1 hq hN
            obtain ⟨T, ty⟩ := tys x hx
            repeat walk_at "rd"
            exact ⟨x, T, 0, 10000, rfl, ty.ex e1, hq _ _ rfl (Ex.refl _)⟩
          · intro L H' hL e1 hl
            have e2 : xs.filterMap (fun x => some (V.bl (inB 0 10000 x))) = (xs.map (inB 0 10000)).map V.bl := by
              rw [List.map_map]
              exact congrFun List.filterMap_eq_map xs
            rw [e2] at hl
            repeat walk_at "rd"
            refine r_all (sqL_of hl) ?_
            rw [all_map]
            exact k _ e1
        · refine r_T (by rw [decide_eq_false c2]; rfl) ?_
          have e0 : okA xs = false := by
            unfold okA
            rw [decide_eq_false (show ¬ xs.length ≤ 12 by omega), Bool.false_and, Bool.and_false]
          rw [e0] at k
          repeat walk_at "rd"
          exact k H (Ex.refl H)
      · refine r_F (decide_eq_false c1) ?_
        have e0 : okA xs = false := by
          unfold okA
          rw [decide_eq_false (show ¬ 1 ≤ xs.length by omega), Bool.false_and]
        rw [e0] at k
        repeat walk_at "rd"
        exact k H (Ex.refl H)
abbrev s_level_of : Stmt := top 11
theorem sc_level_of : FnScope ["got", "asks", "left", "low", "high", "middle", "needed", "have", "ask"] ["got", "asks", "left"] (defScope s_level_of) := ⟨rfl, rfl, rfl, by decide +kernel, rfl, by decide +kernel, by decide +kernel⟩
/-- what a level asks for more -/
def needed (gs as : List Int) (l : Int) : Int := ((gs.zip as).map fun p => max 0 (min p.2 l - p.1)).sum
def sp_level_of (K : PySem.W.Frag) : Sp := fun vs H Q _ => ∃ a b gs as left, vs = [.ref a, .ref b, .int left] ∧ SqL K H a (gs.map V.int) ∧ SqT K H b (as.map V.int) ∧ gs.length = as.length ∧ gs.length ≤ 12 ∧ needed gs as 0 ≤ left ∧ 
  ∀ H' L, Ex H H' → 0 ≤ L → L ≤ 10000 → needed gs as L ≤ left → (L < 10000 → left < needed gs as (L + 1)) → Q (.int L) H'
theorem ok_level_of (C : Cx0 K mg base) : Cal P w K mg base 1 "level_of" ["got", "asks", "left"] (sp_level_of K) := by
  refine C.cal 4 4 rfl rfl sc_level_of (fun _ _ _ _ _ _ us hl => match us, hl with | [_, _, _], _ => rfl) (fun vs H Q E h => ?_) (fun f cdv A outer s H vs Q E hr h => ⟨_, PSs.nox
    (pss_cons (ps_par (i := 3) (j := 4) rfl sc_level_of.nd rfl rfl (by decide) rfl rfl (pa_cons pe_int (pa_cons (pe_gi (C.int 30)) pa_nil)) (by rfl))
      (pss_cons (ps_while PassesOwn.never (pt_cmpR (k_lt (K := K) rfl hr) (pv 3) (pv 4) (nomark _))
      (pss_cons (ps_set (i := 5) sc_level_of.nd rfl (Or.inr rfl) (pe_op op_fdivN (pe_op (k_add (K := K) rfl) (pe_op (k_add (K := K) rfl) (pv 3) (pv 4)) pe_int) pe_int))
      (pss_cons (ps_set (i := 6) sc_level_of.nd rfl (Or.inl rfl) (pe_bi (k_sum (K := K) rfl rfl) (C.free 21) (by decide +kernel) (pa_cons (pe_lc (own := [("have", 7), ("ask", 8)]) rfl sc_level_of.nd (k_zip (K := K) rfl rfl (C.free 24) (pa_cons (pv 0) (pa_cons (pv 1) pa_nil))) (blkOk_by (N := ["got", "asks", "left", "low", "high", "middle", "needed", "have", "ask"]) (sc := defScope s_level_of) (by decide +kernel)) (fun _ _ _ _ _ => (k_two (K := K) (i := 7) (j := 8) rfl sc_level_of.nd rfl rfl (Or.inl rfl) (Or.inl rfl) (Or.inr rfl) (Or.inr rfl) rfl)) (fun _ _ _ _ _ => pts_nil) (fun _ _ _ _ _ => (pe_bi (cr_max2 rfl) (C.free 18) (by decide +kernel) (pa_cons pe_int (pa_cons (pe_op op_sub (pe_bi (cr_min2 rfl) (C.free 22) (by decide +kernel) (pa_cons (pv 8) (pa_cons (pv 5) pa_nil))) (pv 7)) pa_nil))))) pa_nil)))
      (pss_one (ps_if (pt_cmpR (k_le (K := K) rfl hr) (pv 6) (pv 2) (nomark _)) (pss_one (ps_set (i := 3) sc_level_of.nd rfl (Or.inl rfl) (pv 5))) (pss_one (ps_set (i := 4) sc_level_of.nd rfl (Or.inl rfl) (pe_op op_sub (pv 5) pe_int))))))))
      (pss_one (ps_ret (pv 3))))), ?_⟩)
  · obtain ⟨a, b, gs, as, left, rfl, _⟩ := h
    rfl
  · obtain ⟨a, b, gs, as, left, rfl, ha, hb, hl, hs, h0, k⟩ := h
    repeat walk_at "rd"
    refine r_while (fun m σ H' => ∃ lo hi x5 x6 x7 x8, σ = [some (.ref a), some (.ref b), some (.int left), some (.int lo), some (.int hi), x5, x6, x7, x8] ∧ m = (hi - lo).toNat ∧ Ex H H' ∧ 0 ≤ lo ∧ lo ≤ hi ∧ hi ≤ 10000 ∧ needed gs as lo ≤ left ∧ (hi < 10000 → left < needed gs as (hi + 1))) 10000
      ⟨0, 10000, _, _, _, _, rfl, rfl, Ex.refl H, by omega, by omega, by omega, h0, fun c => by omega⟩ ?_
    rintro m σ H1 ⟨lo, hi, x5, x6, x7, x8, rfl, rfl, e1, b1, b2, b3, n1, n2⟩
    repeat walk_at "rd"
    by_cases c : lo < hi
    · refine r_T (decide_eq_true c) ?_
      refine r_wN ?_
      repeat walk_at "rd"
      refine r_divI ⟨by decide, by decide⟩ ?_
      repeat walk_at "rd"
      obtain ⟨mid, hm⟩ : ∃ mid, mid = (lo + hi + 1).fdiv 2 := ⟨_, rfl⟩
      rw [← hm]
      have hm2 : mid = (lo + hi + 1) / 2 := by rw [hm, Int.fdiv_eq_ediv_of_nonneg _ (by decide)]
      refine c_zipI (k1 := .l) (k2 := .t) (sqL_ex e1 ha) (sqT_ex e1 hb) (fun x y => max 0 (min y mid - x)) hl (by omega) (fun _ _ => rfl) ?_ ?_
      · intro x y T H2 q N hxy e2 hT hq
        repeat walk_at "rd"
        exact hq _ (Ex.new hT)
      · intro L H2 hL e2 hl2
        repeat walk_at "rd"
        refine r_sumL (sqL_of hl2) ?_
        repeat walk_at "rd"
        by_cases d : needed gs as mid ≤ left
        · refine r_T (decide_eq_true d) ?_
          repeat walk_at "rd"
          exact ⟨_, by omega, mid, hi, _, _, _, _, rfl, rfl, e1.trans e2, by omega, by omega, b3, d, n2⟩
        · refine r_F (decide_eq_false d) ?_
          repeat walk_at "rd"
          refine ⟨_, ?_, lo, mid - 1, _, _, _, _, rfl, rfl, e1.trans e2, b1, by omega, by omega, n1, fun _ => ?_⟩
          · omega
          · rw [show mid - 1 + 1 = mid by omega]; omega
    · refine r_F (decide_eq_false c) ?_
      have e : lo = hi := by omega
      subst e
      repeat walk_at "rd"
      exact k H1 lo e1 b1 b3 n1 n2
end
end K61

namespace K61
section
variable {P : Program} {w : World} {K : PySem.W.Frag} {mg : Str → Option Value} {base : Heap}
abbrev s_dealt : Stmt := top 12
theorem sc_dealt : FnScope ["capacity", "shares", "asks", "got", "share", "ask", "left", "level", "found", "have", "at"] ["capacity", "shares", "asks"] (defScope s_dealt) := ⟨rfl, rfl, rfl, by decide +kernel, rfl, by decide +kernel, by decide +kernel⟩
/-- have and ask by turns, what is left over in ones -/
def dl (L : Int) : Int → List (Int × Int) → List Int
  | _, [] => []
  | n, p :: r => if 0 < n ∧ p.1 = L ∧ L < p.2 then (p.1 + 1) :: dl L (n - 1) r else p.1 :: dl L n r
def gotOf (ss as : List Int) : List Int := (ss.zip as).map fun p => min p.1 p.2
def baseOf (L : Int) (gs as : List Int) : List Int := (gs.zip as).map fun p => max p.1 (min p.2 L)
def dealtOf (c L : Int) (ss as : List Int) : List Int := dl L (c - (baseOf L (gotOf ss as) as).sum) ((baseOf L (gotOf ss as) as).zip as)
def IsLevel (c L : Int) (ss as : List Int) : Prop := 0 ≤ L ∧ L ≤ 10000 ∧ needed (gotOf ss as) as L ≤ c - (gotOf ss as).sum ∧ (L < 10000 → c - (gotOf ss as).sum < needed (gotOf ss as) as (L + 1))
def okAm (ns : List Int) : Prop := 1 ≤ ns.length ∧ ns.length ≤ 12 ∧ ∀ n ∈ ns, 0 ≤ n ∧ n ≤ 10000
theorem okA_ints {xs : List V} (h : okA xs = true) : ∃ ns : List Int, xs = ns.map V.int ∧ okAm ns := by
  unfold okA at h
  rw [Bool.and_eq_true, Bool.and_eq_true, decide_eq_true_eq, decide_eq_true_eq] at h
  obtain ⟨h1, h2, h3⟩ := h
  have key : ∀ l : List V, l.all (inB 0 10000) = true → ∃ ns : List Int, l = ns.map V.int ∧ ∀ n ∈ ns, 0 ≤ n ∧ n ≤ 10000 := fun l => by
    induction l with
    | nil => exact fun _ => ⟨[], rfl, fun n hn => nomatch hn⟩
    | cons x l ih =>
      intro h
      rw [List.all_cons, Bool.and_eq_true] at h
      obtain ⟨ns, rfl, hn⟩ := ih h.2
      cases x with
      | int i =>
        refine ⟨i :: ns, rfl, fun n hm => ?_⟩
        rcases List.mem_cons.mp hm with rfl | hm
        · exact inB_int.mp h.1
        · exact hn n hm
      | _ => cases h.1
  obtain ⟨ns, rfl, hn⟩ := key xs h3
  rw [List.length_map] at h1 h2
  exact ⟨ns, rfl, h1, h2, hn⟩
theorem Am.yes {H : Hp} {v : V} (h : Am K H v true) : ∃ a ns, v = .ref a ∧ SqT K H a (ns.map V.int) ∧ okAm ns := by
  rcases h with ⟨T, _, _, e⟩ | ⟨a, xs, rfl, ht, _, e⟩
  · cases e
  · obtain ⟨ns, rfl, o⟩ := okA_ints e.symm
    exact ⟨a, ns, rfl, ht, o⟩
/-- what dealt does with a right plan -/
def DealtOk (K : PySem.W.Frag) (c : Int) (ss as : List Int) (H : Hp) (Q : VK) : Prop := ∀ H' p L, Ex H H' → H p = none → IsLevel c L ss as → H' p = some (.tup ((dealtOf c L ss as).map V.int)) → Q (.ref p) H'
def sp_dealt (K : PySem.W.Frag) : Sp := fun vs H Q E => ∃ vc v1 v2 T, vs = [vc, v1, v2] ∧ IsTy K H vc T ∧ ((inB 0 10000 vc = false ∧ Refuses K "capacity" H E) ∨ ∃ c, vc = .int c ∧ 0 ≤ c ∧ c ≤ 10000 ∧
  ((Am K H v1 false ∧ Refuses K "shares" H E) ∨ ∃ a ss, v1 = .ref a ∧ SqT K H a (ss.map V.int) ∧ okAm ss ∧ ((c < ss.sum ∧ Refuses K "shares" H E) ∨ (ss.sum ≤ c ∧
    ((Am K H v2 false ∧ Refuses K "asks" H E) ∨ ∃ b as, v2 = .ref b ∧ SqT K H b (as.map V.int) ∧ okAm as ∧ ((as.length ≠ ss.length ∧ Refuses K "asks" H E) ∨ (as.length = ss.length ∧ DealtOk K c ss as H Q)))))))
theorem Am.mk {H : Hp} {a : Addr} {ns : List Int} (h : SqT K H a (ns.map V.int)) (o : okAm ns) : Am K H (.ref a) true := by
  refine .inr ⟨a, ns.map V.int, rfl, h, fun x hx => ?_, ?_⟩
  · obtain ⟨n, _, rfl⟩ := List.mem_map.mp hx
    exact ⟨_, .int n⟩
  · unfold okA
    rw [List.length_map, decide_eq_true o.1, decide_eq_true o.2.1, Bool.true_and, Bool.true_and, eq_comm, List.all_eq_true]
    intro x hx
    obtain ⟨n, hn, rfl⟩ := List.mem_map.mp hx
    exact inB_yes (o.2.2 n hn).1 (o.2.2 n hn).2
theorem got_le : ∀ {ss as : List Int}, (∀ n ∈ ss, 0 ≤ n) → ss.length = as.length → (gotOf ss as).sum ≤ ss.sum
  | [], _, _, _ => by unfold gotOf; simp
  | s :: ss, [], _, h => by cases h
  | s :: ss, a :: as, h, hl => by
    have := got_le (ss := ss) (as := as) (fun n hn => h n (List.mem_cons_of_mem _ hn)) (by simpa using hl)
    unfold gotOf at this ⊢
    rw [List.zip_cons_cons, List.map_cons, List.sum_cons, List.sum_cons]
    show min s a + _ ≤ _
    omega
theorem need0 : ∀ {ss as : List Int}, (∀ n ∈ ss, 0 ≤ n) → (∀ n ∈ as, 0 ≤ n) → needed (gotOf ss as) as 0 = 0
  | [], _, _, _ => by unfold needed gotOf; simp
  | s :: ss, [], _, _ => by unfold needed gotOf; simp
  | s :: ss, a :: as, h, k => by
    have := need0 (ss := ss) (as := as) (fun n hn => h n (List.mem_cons_of_mem _ hn)) (fun n hn => k n (List.mem_cons_of_mem _ hn))
    have h1 := h s (List.mem_cons_self ..)
    have h2 := k a (List.mem_cons_self ..)
    unfold needed gotOf at this ⊢
    rw [List.zip_cons_cons, List.map_cons, List.zip_cons_cons, List.map_cons, List.sum_cons, this]
    show max 0 (min a 0 - min s a) + 0 = 0
    omega
theorem got_len {ss as : List Int} (h : as.length = ss.length) : (gotOf ss as).length = ss.length := by
  unfold gotOf
  rw [List.length_map, List.length_zip]; omega
theorem base_len {L : Int} {gs as : List Int} (h : gs.length = as.length) : (baseOf L gs as).length = as.length := by
  unfold baseOf
  rw [List.length_map, List.length_zip]; omega
theorem dl_step {L n : Int} {p : Int × Int} {r : List (Int × Int)} : dl L n (p :: r) = if 0 < n ∧ p.1 = L ∧ L < p.2 then (p.1 + 1) :: dl L (n - 1) r else p.1 :: dl L n r := by rw [dl]
theorem body_dealt_len (vs : List V) (H : Hp) (Q : VK) (E : XK) (h : sp_dealt K vs H Q E) : vs.length = 3 := by
  obtain ⟨c, a, b, _, rfl, _⟩ := h
  rfl
theorem body_dealt (C : Cx0 K mg base) (O : OBad P w K mg base) : ∀ (f : Addr) (cdv : Value) (A : Around) (outer : List Env) (s : Shared) (H : Hp) (vs : List V) (Q : VK) (E : XK), Room 3 (A.deeper (envOfC "dealt" (defScope s_dealt) s.heap.objs.size f cdv)) → sp_dealt K vs H Q E →
      ∃ t, PSs (cxOf (L2.CX P w) P w K mg base ["capacity", "shares", "asks", "got", "share", "ask", "left", "level", "found", "have", "at"] "dealt" (defScope s_dealt) f cdv A outer s H E) (defBody s_dealt) t ∧ t { nx := fun _ H' => Q .non H', rt := Q } (start ["capacity", "shares", "asks", "got", "share", "ask", "left", "level", "found", "have", "at"] vs) H := by
  have c_is_in := ok_is_in (P := P) (w := w) C
  have c_demand := ok_demand C O
  have c_are_amounts := ok_are_amounts (P := P) (w := w) C
  have c_level_of := ok_level_of (P := P) (w := w) C
  refine fun f cdv A outer s H vs Q E hr h => ⟨_,
    (pss_cons (ps_expr (pe_f c_demand hr (by decide) (passes_call (takes_of rfl rfl rfl rfl) fun _ _ _ _ h => h) (pa_cons (pe_f c_is_in hr (by decide) (passes_call (takes_of rfl rfl rfl rfl) fun _ _ _ _ h => h) (pa_cons (pv 0) (pa_cons pe_int (pa_cons (pe_gi (C.int 30)) pa_nil)))) (pa_cons pe_str pa_nil))))
      (pss_cons (ps_expr (pe_f c_demand hr (by decide) (passes_call (takes_of rfl rfl rfl rfl) fun _ _ _ _ h => h) (pa_cons (pe_and (pe_f c_are_amounts hr (by decide) (passes_call (takes_of rfl rfl rfl rfl) fun _ _ _ _ h => h) (pa_cons (pv 1) pa_nil)) (pe_one (pe_cmpR (k_le (K := K) rfl hr) (pe_bi (k_sum (K := K) rfl rfl) (C.free 21) (by decide +kernel) (pa_cons (pv 1) pa_nil)) (pv 0) (nomark _)))) (pa_cons pe_str pa_nil))))
      (pss_cons (ps_expr (pe_f c_demand hr (by decide) (passes_call (takes_of rfl rfl rfl rfl) fun _ _ _ _ h => h) (pa_cons (pe_and (pe_f c_are_amounts hr (by decide) (passes_call (takes_of rfl rfl rfl rfl) fun _ _ _ _ h => h) (pa_cons (pv 2) pa_nil)) (pe_one (pe_cmpR (k_eq (K := K) rfl hr) (pe_bi (k_len (K := K) rfl) (C.free 25) (by decide +kernel) (pa_cons (pv 2) pa_nil)) (pe_bi (k_len (K := K) rfl) (C.free 25) (by decide +kernel) (pa_cons (pv 1) pa_nil)) (nomark _)))) (pa_cons pe_str pa_nil))))
      (pss_cons (ps_setLc (i := 3) (own := [("share", 4), ("ask", 5)]) rfl sc_dealt.nd rfl rfl (sw_true rfl rfl rfl (by decide +kernel)) (k_zip (K := K) rfl rfl (C.free 24) (pa_cons (pv 1) (pa_cons (pv 2) pa_nil))) (blkOk_by (N := ["capacity", "shares", "asks", "got", "share", "ask", "left", "level", "found", "have", "at"]) (sc := defScope s_dealt) (by decide +kernel)) (fun _ _ _ _ _ => (k_two (K := K) (i := 4) (j := 5) rfl sc_dealt.nd rfl rfl (Or.inl rfl) (Or.inl rfl) (Or.inr rfl) (Or.inr rfl) rfl)) (fun _ _ _ _ _ => pts_nil) (fun _ _ _ _ _ => (pe_bi (cr_min2 rfl) (C.free 22) (by decide +kernel) (pa_cons (pv 4) (pa_cons (pv 5) pa_nil)))))
      (pss_cons (ps_set (i := 6) sc_dealt.nd rfl (Or.inl rfl) (pe_op op_sub (pv 0) (pe_bi (k_sum (K := K) rfl rfl) (C.free 21) (by decide +kernel) (pa_cons (pv 3) pa_nil))))
      (pss_cons (ps_set (i := 7) sc_dealt.nd rfl (Or.inr rfl) (pe_f c_level_of hr (by decide) (passes_call (takes_of rfl rfl rfl rfl) fun _ _ _ _ h => h) (pa_cons (pv 3) (pa_cons (pv 2) (pa_cons (pv 6) pa_nil)))))
      (pss_cons (ps_setLc (i := 8) (own := [("have", 9), ("ask", 5)]) rfl sc_dealt.nd rfl rfl (sw_true rfl rfl rfl (by decide +kernel)) (k_zip (K := K) rfl rfl (C.free 24) (pa_cons (pv 3) (pa_cons (pv 2) pa_nil))) (blkOk_by (N := ["capacity", "shares", "asks", "got", "share", "ask", "left", "level", "found", "have", "at"]) (sc := defScope s_dealt) (by decide +kernel)) (fun _ _ _ _ _ => (k_two (K := K) (i := 9) (j := 5) rfl sc_dealt.nd rfl rfl (Or.inl rfl) (Or.inl rfl) (Or.inr rfl) (Or.inr rfl) rfl)) (fun _ _ _ _ _ => pts_nil) (fun _ _ _ _ _ => (pe_bi (cr_max2 rfl) (C.free 18) (by decide +kernel) (pa_cons (pv 9) (pa_cons (pe_bi (cr_min2 rfl) (C.free 22) (by decide +kernel) (pa_cons (pv 5) (pa_cons (pv 7) pa_nil))) pa_nil)))))
      (pss_cons (ps_set (i := 6) sc_dealt.nd rfl (Or.inl rfl) (pe_op op_sub (pv 0) (pe_bi (k_sum (K := K) rfl rfl) (C.free 21) (by decide +kernel) (pa_cons (pv 8) pa_nil))))
      (pss_cons (ps_for (passes_of rfl) rfl (k_enum (K := K) rfl rfl (C.free 15) (pa_cons (pv 2) pa_nil)) (k_two (K := K) (i := 10) (j := 5) rfl sc_dealt.nd rfl rfl (Or.inl rfl) (Or.inl rfl) (Or.inl rfl) (Or.inl rfl) rfl)
      (pss_one (ps_if (PW.pt (pw_and (pt_cmpR (k_gt (K := K) rfl hr) (pv 6) pe_int (nomark _)) (pw_and (pt_cmpR (k_eq (K := K) rfl hr) (pe_ix (k_ix (K := K) rfl) (pv 8) (pv 10) (fun _ _ => rfl)) (pv 7) (nomark _)) (pw_and1 (pt_cmpR (k_gt (K := K) rfl hr) (pv 5) (pv 7) (nomark _)))))) (pss_cons (ps_augS (pv 8) (pv 10) (k_get (K := K) rfl) pe_int ip_add set_list)
      (pss_one (ps_aug (i := 6) sc_dealt.nd rfl (Or.inl rfl) pe_int ip_sub))) pss_nil)))
      (pss_one (ps_ret (pe_bt (k_tuple (K := K) rfl) (C.free 16) (by decide +kernel) (pa_cons (pv 8) pa_nil))))))))))))), ?_⟩
  obtain ⟨vc, v1, v2, T, rfl, ty, q⟩ := h
  repeat walk_at "rd"
  refine ⟨vc, T, 0, 10000, rfl, ty, ?_⟩
  rcases q with ⟨bad, ref⟩ | ⟨c, rfl, c0, c1, q⟩
  · rw [bad]
    repeat walk_at "rd"
    exact ⟨_, _, rfl, (fun z => nomatch z), fun _ => ref⟩
  rw [inB_yes c0 c1]
  repeat walk_at "rd"
  refine ⟨_, _, rfl, fun _ => ?_, fun z => nomatch z⟩
  repeat walk_at "rd"
  rcases q with ⟨bad, ref⟩ | ⟨a, ss, rfl, ha, o1, q⟩
  · refine ⟨v1, false, rfl, bad, fun H1 e1 => ?_⟩
    repeat walk_at "rd"
    exact ⟨_, _, rfl, (fun z => nomatch z), fun _ => ref.ex e1⟩
  refine ⟨_, true, rfl, Am.mk ha o1, fun H1 e1 => ?_⟩
  repeat walk_at "rd"
  refine r_sumT (sqT_ex e1 ha) ?_
  repeat walk_at "rd"
  rcases q with ⟨hs, ref⟩ | ⟨hs, q⟩
  · rw [decide_eq_false (Int.not_le.mpr hs)]
    exact ⟨_, _, rfl, (fun z => nomatch z), fun _ => ref.ex e1⟩
  rw [decide_eq_true hs]
  refine ⟨_, _, rfl, fun _ => ?_, fun z => nomatch z⟩
  repeat walk_at "rd"
  rcases q with ⟨bad, ref⟩ | ⟨b, as, rfl, hb, o2, q⟩
  · refine ⟨v2, false, rfl, bad.ex e1, fun H2 e2 => ?_⟩
    repeat walk_at "rd"
    exact ⟨_, _, rfl, (fun z => nomatch z), fun _ => ref.ex (e1.trans e2)⟩
  refine ⟨_, true, rfl, (Am.mk hb o2).ex e1, fun H2 e2 => ?_⟩
  repeat walk_at "rd"
  refine r_lenTI (sqT_ex (e1.trans e2) hb) ?_
  repeat walk_at "rd"
  refine r_lenTI (sqT_ex (e1.trans e2) ha) ?_
  repeat walk_at "rd"
  rcases q with ⟨hl, ref⟩ | ⟨hl, k⟩
  · rw [decide_eq_false (by omega)]
    exact ⟨_, _, rfl, (fun z => nomatch z), fun _ => ref.ex (e1.trans e2)⟩
  rw [decide_eq_true (by omega)]
  refine ⟨_, _, rfl, fun _ => ?_, fun z => nomatch z⟩
  repeat walk_at "rd"
  have e02 := e1.trans e2
  refine c_zipI (k1 := .t) (k2 := .t) (sqT_ex e02 ha) (sqT_ex e02 hb) (fun x y => min x y) hl.symm (by have := o1.2.1; omega) (fun _ _ => rfl) ?_ ?_
  · intro x y T H3 q N hxy e3 hT hq
    repeat walk_at "rd"
    exact hq _ (Ex.new hT)
  intro G H3 hG e3 hg
  repeat walk_at "rd"
  refine r_sumL (sqL_of hg) ?_
  repeat walk_at "rd"
  have e03 := e02.trans e3
  have gl := got_len (ss := ss) hl
  have n12 := o1.2.1
  refine ⟨G, b, gotOf ss as, as, _, rfl, sqL_of hg, sqT_ex e03 hb, by omega, by omega, ?_, fun H4 L e4 l0 l1 l2 l3 => ?_⟩
  · have := got_le (ss := ss) (as := as) (fun n hn => (o1.2.2 n hn).1) hl.symm
    rw [need0 (fun n hn => (o1.2.2 n hn).1) (fun n hn => (o2.2.2 n hn).1)]
    show 0 ≤ c - (gotOf ss as).sum
    omega
  repeat walk_at "rd"
  have e04 := e03.trans e4
  refine c_zipI (k1 := .l) (k2 := .t) (gs := gotOf ss as) (sqL_of (e4 _ _ hg)) (sqT_ex e04 hb) (fun x y => max x (min y L)) (by omega) (by omega) (fun _ _ => rfl) ?_ ?_
  · intro x y T H5 q N hxy e5 hT hq
    repeat walk_at "rd"
    exact hq _ (Ex.new hT)
  intro F H5 hF e5 hf
  obtain ⟨f0, hf0⟩ : ∃ f0, f0 = baseOf L (gotOf ss as) as := ⟨_, rfl⟩
  have hfl : f0.length = as.length := by rw [hf0, base_len (by omega)]
  replace hf : H5 F = some (.lst (f0.map V.int)) := by rw [hf, hf0]; rfl
  repeat walk_at "rd"
  refine r_sumL (sqL_of hf) ?_
  repeat walk_at "rd"
  have e05 := e04.trans e5
  have F0 : H F = none := e04.free hF
  refine f_enum (k := .t) (sqT_ex e05 hb) (fun i σ H' => ∃ (cur : List Int) (n : Int) (x4 x5 x9 x10 : Option V), σ = [some (.int c), some (.ref a), some (.ref b), some (.ref G), x4, x5, some (.int n), some (.int L), some (.ref F), x9, x10] ∧ Ex H H' ∧ H' F = some (.lst (cur.map V.int)) ∧
    cur.length = as.length ∧ cur.drop i = f0.drop i ∧ dl L (c - f0.sum) (f0.zip as) = cur.take i ++ dl L n ((f0.zip as).drop i)) ⟨f0, c - f0.sum, _, _, _, _, rfl, e05, hf, hfl, rfl, rfl⟩ (fun i σ H' _ p => ?_) ?_ ?_
  · obtain ⟨_, _, _, _, _, _, _, e, _⟩ := p
    exact sqT_ex e hb
  · rintro i x T σ H6 hx ⟨cur, n, x4, x5, x9, x10, rfl, e6, hc, cl, cd, ce⟩ hT
    rw [List.getElem?_map] at hx
    obtain ⟨av, hav, rfl⟩ := Option.map_eq_some_iff.mp hx
    have hi : i < as.length := (List.getElem?_eq_some_iff.mp hav).1
    have hif : i < f0.length := by omega
    have hfv : f0[i]? = some f0[i] := List.getElem?_eq_getElem hif
    have hcv : cur[i]? = some f0[i] := by
      have := congrArg (fun l => l[0]?) cd
      simp only [List.getElem?_drop, Nat.add_zero] at this
      rw [this, hfv]
    obtain ⟨fv, efv⟩ : ∃ fv, fv = f0[i] := ⟨_, rfl⟩
    rw [← efv] at hfv hcv
    have hz : (f0.zip as)[i]? = some (fv, av) := by
      rw [List.getElem?_zip_eq_some]
      exact ⟨hfv, hav⟩
    have hzd : (f0.zip as).drop i = (fv, av) :: (f0.zip as).drop (i + 1) := by
      obtain ⟨h1, h2⟩ := List.getElem?_eq_some_iff.mp hz
      rw [List.drop_eq_getElem_cons h1, h2]
    rw [hzd, dl_step] at ce
    have cd' : cur.drop (i + 1) = f0.drop (i + 1) := by
      have := congrArg List.tail cd
      rwa [List.tail_drop, List.tail_drop] at this
    have ctk : cur.take (i + 1) = cur.take i ++ [fv] := by
      rw [List.take_add_one, hcv]; rfl
    have keep : ∀ H7, Ex H H7 → H7 F = some (.lst (cur.map V.int)) → ¬ (0 < n ∧ fv = L ∧ L < av) → ∃ (cur : List Int) (n' : Int) (z4 x5' z9 x10' : Option V), [some (V.int c), some (.ref a), some (.ref b), some (.ref G), x4, some (.int av), some (.int n), some (.int L), some (.ref F), x9, some (.int (i : Nat))] = [some (.int c), some (.ref a), some (.ref b), some (.ref G), z4, x5', some (.int n'), some (.int L), some (.ref F), z9, x10'] ∧ Ex H H7 ∧ H7 F = some (.lst (cur.map V.int)) ∧
        cur.length = as.length ∧ cur.drop (i + 1) = f0.drop (i + 1) ∧ dl L (c - f0.sum) (f0.zip as) = cur.take (i + 1) ++ dl L n' ((f0.zip as).drop (i + 1)) := fun H7 e7 h7 nb => by
      rw [if_neg nb] at ce
      exact ⟨cur, n, x4, _, x9, _, rfl, e7, h7, cl, cd', by rw [ctk, ce, List.append_assoc]; rfl⟩
    have e6' := e6.trans (Ex.new (o := .tup [.int (i : Nat), .int av]) hT)
    have hc' : upd H6 T (.tup [.int (i : Nat), .int av]) F = some (.lst (cur.map V.int)) := at_up hT hc
    repeat walk_at "rd"
    by_cases q1 : 0 < n
    · refine r_T (decide_eq_true q1) ?_
      repeat walk_at "rd"
      refine r_ixLI (sqL_of hc') hcv ?_
      repeat walk_at "rd"
      by_cases q2 : fv = L
      · refine r_T (decide_eq_true q2) ?_
        repeat walk_at "rd"
        by_cases q3 : L < av
        · refine r_T (decide_eq_true q3) ?_
          repeat walk_at "rd"
          refine r_getL (sqL_of hc') (by rw [List.getElem?_map, hcv]; rfl) ?_
          repeat walk_at "rd"
          refine r_setL hc' (by rw [List.length_map]; omega) ?_
          repeat walk_at "rd"
          rw [if_pos ⟨q1, q2, q3⟩] at ce
          refine ⟨cur.set i (fv + 1), n - 1, _, _, _, _, rfl, fun z o hz => ?_, ?_, by rw [List.length_set]; exact cl, ?_, ?_⟩
          · have : z ≠ F := fun e => by rw [e, F0] at hz; cases hz
            exact (upd_ne this).trans (e6' z o hz)
          · rw [upd_same, List.map_set]
          · rw [List.drop_set_of_lt (by omega)]; exact cd'
          · rw [ce, List.take_add_one, List.take_set_of_le (Nat.le_refl _), List.getElem?_set_self (by omega), List.append_assoc]; rfl
        · refine r_F (decide_eq_false q3) ?_
          repeat walk_at "rd"
          obtain ⟨cur, n', y4, y5, y9, y10, ey, r⟩ := keep _ e6' hc' fun h => q3 h.2.2
          exact ⟨cur, n', y4, y5, y9, y10, ey, r⟩
      · refine r_F (decide_eq_false q2) ?_
        repeat walk_at "rd"
        obtain ⟨cur, n', y4, y5, y9, y10, ey, r⟩ := keep _ e6' hc' fun h => q2 h.2.1
        exact ⟨cur, n', y4, y5, y9, y10, ey, r⟩
    · refine r_F (decide_eq_false q1) ?_
      repeat walk_at "rd"
      obtain ⟨cur, n', y4, y5, y9, y10, ey, r⟩ := keep _ e6' hc' fun h => q1 h.1
      exact ⟨cur, n', y4, y5, y9, y10, ey, r⟩
  · rintro σ H6 ⟨cur, n, x4, x5, x9, x10, rfl, e6, hc, cl, cd, ce⟩
    rw [List.length_map] at ce
    have hend : (f0.zip as).drop as.length = [] := List.drop_eq_nil_of_le (by rw [List.length_zip]; omega)
    rw [hend, List.take_of_length_le (by omega), dl, List.append_nil] at ce
    repeat walk_at "rd"
    refine r_tupL (sqL_of hc) fun p hp => ?_
    refine k _ p L (e6.trans (Ex.new hp)) (e6.free hp) ⟨l0, l1, l2, l3⟩ ?_
    rw [upd_same, ← ce, hf0]; rfl
theorem ok_dealt (C : Cx0 K mg base) (O : OBad P w K mg base) : Cal P w K mg base 4 "dealt" ["capacity", "shares", "asks"] (sp_dealt K) := C.cal 5 5 rfl rfl sc_dealt (fun _ _ _ _ _ _ us hl => match us, hl with | [_, _, _], _ => rfl) body_dealt_len (body_dealt C O)
end
end K61

namespace K61
/-! the plain law of k61 -/
structure Fit (c : Int) (ss as : List Int) : Prop where
  len : ss.length = as.length
  ps : ∀ n ∈ ss, 0 ≤ n
  pa : ∀ n ∈ as, 0 ≤ n ∧ n ≤ 10000
  le : ss.sum ≤ c
theorem sum_nn : ∀ {l : List Int}, (∀ n ∈ l, 0 ≤ n) → 0 ≤ l.sum
  | [], _ => by simp
  | x :: l, h => by
    have h1 := h x (List.mem_cons_self ..)
    have h2 := sum_nn (l := l) fun n hn => h n (List.mem_cons_of_mem _ hn)
    rw [List.sum_cons]; omega
theorem Fit.pos {c : Int} {ss as : List Int} (f : Fit c ss as) : 0 ≤ c := Int.le_trans (sum_nn f.ps) f.le
theorem Fit.set {c v : Int} {ss as : List Int} {i : Nat} (f : Fit c ss as) (h : 0 ≤ v ∧ v ≤ 10000) : Fit c ss (as.set i v) := by
  refine ⟨by rw [List.length_set]; exact f.len, f.ps, fun n hn => ?_, f.le⟩
  rcases List.mem_or_eq_of_mem_set hn with hn | rfl
  · exact f.pa n hn
  · exact h
theorem sum_le {b : Int} : ∀ (l : List Int), (∀ n ∈ l, n ≤ b) → l.sum ≤ b * l.length
  | [], _ => by simp
  | x :: l, h => by
    have h1 := h x (List.mem_cons_self ..)
    have h2 := sum_le (b := b) l fun n hn => h n (List.mem_cons_of_mem _ hn)
    rw [List.sum_cons, List.length_cons, Int.natCast_add, Int.mul_add]; omega
theorem sum_pt : ∀ {xs ys : List Int}, xs.length = ys.length → (∀ (i : Nat) x y, xs[i]? = some x → ys[i]? = some y → x ≤ y) → xs.sum ≤ ys.sum
  | [], [], _, _ => by simp
  | [], _ :: _, h, _ => by cases h
  | _ :: _, [], h, _ => by cases h
  | x :: xs, y :: ys, h, k => by
    have h1 := k 0 x y rfl rfl
    have h2 := sum_pt (xs := xs) (ys := ys) (by simpa using h) fun i a b ha hb => k (i + 1) a b ha hb
    rw [List.sum_cons, List.sum_cons]; omega
/-! shares and asks in pairs -/
abbrev Pr := Int × Int
def g (p : Pr) : Int := min p.1 p.2
def b (l : Int) (p : Pr) : Int := max (g p) (min p.2 l)
def T (l : Int) (p : Pr) : Prop := b l p = l ∧ l < p.2
instance (l : Int) (p : Pr) : Decidable (T l p) := by unfold T; exact inferInstance
def B (l : Int) (ps : List Pr) : Int := (ps.map (b l)).sum
def one (l : Int) (p : Pr) : Int := if T l p then 1 else 0
def C (l : Int) (ps : List Pr) : Int := (ps.map (one l)).sum
def D (l n : Int) (ps : List Pr) : List Int := dl l n (ps.map fun p => (b l p, p.2))
theorem one_nn (l : Int) (p : Pr) : 0 ≤ one l p ∧ one l p ≤ 1 := by unfold one; split <;> omega
theorem b_succ (l : Int) (p : Pr) : b (l + 1) p = b l p + one l p := by
  by_cases h : T l p
  · unfold one
    rw [if_pos h]
    obtain ⟨h1, h2⟩ := h
    unfold b g at *
    omega
  · unfold one
    rw [if_neg h]
    have h2 : ¬ (b l p = l ∧ l < p.2) := h
    unfold b g at *
    omega
theorem B_cons (l : Int) (p : Pr) (ps : List Pr) : B l (p :: ps) = b l p + B l ps := by unfold B; rw [List.map_cons, List.sum_cons]
theorem C_cons (l : Int) (p : Pr) (ps : List Pr) : C l (p :: ps) = one l p + C l ps := by unfold C; rw [List.map_cons, List.sum_cons]
theorem C_nn (l : Int) : ∀ ps : List Pr, 0 ≤ C l ps
  | [] => by unfold C; simp
  | p :: ps => by
    have := C_nn l ps
    have := one_nn l p
    rw [C_cons]; omega
theorem B_succ (l : Int) : ∀ ps : List Pr, B (l + 1) ps = B l ps + C l ps
  | [] => by unfold B C; simp
  | p :: ps => by
    have h1 := B_succ l ps
    have h2 := b_succ l p
    rw [B_cons, B_cons, C_cons]; omega
theorem b_mono {l m : Int} (h : l ≤ m) (p : Pr) : b l p ≤ b m p := by unfold b; omega
theorem B_mono {l m : Int} (h : l ≤ m) : ∀ ps : List Pr, B l ps ≤ B m ps
  | [] => by unfold B; simp
  | p :: ps => by
    have h1 := B_mono h ps
    have h2 := b_mono h p
    rw [B_cons, B_cons]; omega
theorem D_nil (l n : Int) : D l n [] = [] := by unfold D; rw [List.map_nil, dl]
theorem D_cons (l n : Int) (p : Pr) (ps : List Pr) : D l n (p :: ps) = if 0 < n ∧ T l p then (b l p + 1) :: D l (n - 1) ps else b l p :: D l n ps := by
  unfold D T
  rw [List.map_cons, dl]
theorem D_len (l : Int) : ∀ (ps : List Pr) (n : Int), (D l n ps).length = ps.length
  | [], n => by rw [D_nil]; rfl
  | p :: ps, n => by
    rw [D_cons]
    split
    · rw [List.length_cons, List.length_cons, D_len l ps]
    · rw [List.length_cons, List.length_cons, D_len l ps]
theorem D_sum (l : Int) : ∀ (ps : List Pr) (n : Int), (D l n ps).sum = B l ps + max 0 (min n (C l ps))
  | [], n => by
    rw [D_nil]
    unfold B C
    simp only [List.sum_nil, List.map_nil]; omega
  | p :: ps, n => by
    have c0 := C_nn l ps
    rw [D_cons, B_cons, C_cons]
    by_cases h : 0 < n ∧ T l p
    · rw [if_pos h, List.sum_cons, D_sum l ps]
      have e : one l p = 1 := if_pos h.2
      omega
    · rw [if_neg h, List.sum_cons, D_sum l ps]
      by_cases h1 : 0 < n
      · have e : one l p = 0 := if_neg fun t => h ⟨h1, t⟩
        omega
      · have := one_nn l p
        omega
theorem ite_iff {p q : Prop} [Decidable p] [Decidable q] (h : p ↔ q) (x y : Int) : (if p then x else y) = if q then x else y := by
  by_cases c : p
  · rw [if_pos c, if_pos (h.mp c)]
  · rw [if_neg c, if_neg fun d => c (h.mpr d)]
/-- what the i-th gets -/
theorem D_get (l : Int) : ∀ (ps : List Pr) (n : Int) (i : Nat) (p : Pr), ps[i]? = some p → (D l n ps)[i]? = some (b l p + if C l (ps.take i) < n ∧ T l p then 1 else 0)
  | [], n, i, p, h => by cases h
  | q :: ps, n, 0, p, h => by
    cases h
    rw [D_cons, List.take_zero]
    have e : C l [] = 0 := rfl
    rw [e]
    by_cases h : 0 < n ∧ T l q
    · rw [if_pos h, if_pos h]; rfl
    · rw [if_neg h, if_neg h, Int.add_zero]; rfl
  | q :: ps, n, i + 1, p, h => by
    have h' : ps[i]? = some p := h
    have c0 := C_nn l (ps.take i)
    rw [D_cons, List.take_succ_cons, C_cons]
    by_cases h : 0 < n ∧ T l q
    · have e : one l q = 1 := if_pos h.2
      rw [if_pos h, e]
      have := D_get l ps (n - 1) i p h'
      show (D l (n - 1) ps)[i]? = _
      rw [this]
      congr 2
      refine ite_iff ?_ 1 0
      constructor <;> (rintro ⟨a, t⟩; exact ⟨by omega, t⟩)
    · rw [if_neg h]
      have := D_get l ps n i p h'
      show (D l n ps)[i]? = _
      rw [this]
      congr 2
      refine ite_iff ?_ 1 0
      by_cases h1 : 0 < n
      · have e : one l q = 0 := if_neg fun t => h ⟨h1, t⟩
        rw [e]
        constructor <;> (rintro ⟨a, t⟩; exact ⟨by omega, t⟩)
      · have := one_nn l q
        constructor <;> (rintro ⟨a, t⟩; omega)
/-! the walk's words in pairs -/
theorem got_zip (ss as : List Int) : gotOf ss as = (ss.zip as).map g := rfl
theorem base_zip (l : Int) : ∀ ss as : List Int, baseOf l (gotOf ss as) as = (ss.zip as).map (b l)
  | [], _ => by unfold baseOf gotOf; simp
  | _ :: _, [] => by unfold baseOf gotOf; simp
  | s :: ss, a :: as => by
    have := base_zip l ss as
    unfold baseOf gotOf at this ⊢
    simp only [List.zip_cons_cons, List.map_cons, this]
    rfl
theorem base_zip2 (l : Int) : ∀ ss as : List Int, ((ss.zip as).map (b l)).zip as = (ss.zip as).map fun p => (b l p, p.2)
  | [], _ => by simp
  | _ :: _, [] => by simp
  | s :: ss, a :: as => by
    have := base_zip2 l ss as
    simp only [List.zip_cons_cons, List.map_cons, this]
theorem need_zip (l : Int) : ∀ ss as : List Int, needed (gotOf ss as) as l + (gotOf ss as).sum = B l (ss.zip as)
  | [], _ => by unfold needed gotOf B; simp
  | _ :: _, [] => by unfold needed gotOf B; simp
  | s :: ss, a :: as => by
    have := need_zip l ss as
    unfold needed gotOf at this ⊢
    rw [List.zip_cons_cons, B_cons]
    simp only [List.zip_cons_cons, List.map_cons, List.sum_cons]
    have e : max 0 (min a l - min s a) + min s a = b l (s, a) := by unfold b g; show _ = max (min s a) (min a l); omega
    omega
theorem dealt_D (c l : Int) (ss as : List Int) : dealtOf c l ss as = D l (c - B l (ss.zip as)) (ss.zip as) := by
  unfold dealtOf D
  rw [base_zip, base_zip2]
  rfl
theorem level_B {c l : Int} {ss as : List Int} (h : IsLevel c l ss as) : 0 ≤ l ∧ l ≤ 10000 ∧ B l (ss.zip as) ≤ c ∧ (l < 10000 → c < B (l + 1) (ss.zip as)) := by
  obtain ⟨h1, h2, h3, h4⟩ := h
  have e1 := need_zip l ss as
  have e2 := need_zip (l + 1) ss as
  exact ⟨h1, h2, by omega, fun hl => by have := h4 hl; omega⟩
theorem zip_len {c : Int} {ss as : List Int} (f : Fit c ss as) : (ss.zip as).length = as.length := by rw [List.length_zip, f.len]; omega
theorem zip_get {ss as : List Int} {i : Nat} {p : Pr} (h : (ss.zip as)[i]? = some p) : ss[i]? = some p.1 ∧ as[i]? = some p.2 := by
  have := List.getElem?_zip_eq_some.mp (show (ss.zip as)[i]? = some (p.1, p.2) from h)
  exact this
theorem dealt_len {c L : Int} {ss as : List Int} (f : Fit c ss as) : (dealtOf c L ss as).length = as.length := by rw [dealt_D, D_len, zip_len f]
theorem b_bd {l : Int} {p : Pr} : g p ≤ b l p ∧ b l p ≤ p.2 := by unfold b g; omega
theorem f_bd {l n : Int} {ps : List Pr} {i : Nat} {p : Pr} {v : Int} (hp : ps[i]? = some p) (hv : (D l n ps)[i]? = some v) : g p ≤ v ∧ v ≤ p.2 ∧ min p.2 l ≤ v ∧ v ≤ max (g p) (l + 1) := by
  rw [D_get l ps n i p hp] at hv
  have := Option.some.inj hv
  have hb := b_bd (l := l) (p := p)
  by_cases h : C l (ps.take i) < n ∧ T l p
  · rw [if_pos h] at this
    obtain ⟨_, t1, t2⟩ := h
    unfold b g at *
    omega
  · rw [if_neg h] at this
    unfold b g at *
    omega
theorem dealt_sum {c L : Int} {ss as : List Int} (f : Fit c ss as) (h : IsLevel c L ss as) : (dealtOf c L ss as).sum = min c as.sum := by
  obtain ⟨h1, h2, h3, h4⟩ := level_B h
  have ea : as = (ss.zip as).map Prod.snd := by
    rw [List.map_snd_zip (by rw [f.len]; exact Nat.le_refl _)]
  have up : ∀ l, B l (ss.zip as) ≤ as.sum := fun l => by
    conv => rhs; rw [ea]
    unfold B
    refine sum_pt (by rw [List.length_map, List.length_map]) fun i x y hx hy => ?_
    rw [List.getElem?_map] at hx hy
    obtain ⟨p, hp, rfl⟩ := Option.map_eq_some_iff.mp hx
    rw [hp] at hy
    cases hy
    exact b_bd.2
  rw [dealt_D, D_sum]
  have bs := B_succ L (ss.zip as)
  by_cases hl : L < 10000
  · have := h4 hl
    have := up (L + 1)
    omega
  · have e : L = 10000 := by omega
    have full : as.sum ≤ B L (ss.zip as) := by
      conv => lhs; rw [ea]
      unfold B
      refine sum_pt (by rw [List.length_map, List.length_map]) fun i x y hx hy => ?_
      rw [List.getElem?_map] at hx hy
      obtain ⟨p, hp, rfl⟩ := Option.map_eq_some_iff.mp hx
      rw [hp] at hy
      cases hy
      have := f.pa p.2 (List.mem_of_getElem? (zip_get hp).2)
      unfold b
      omega
    have := up L
    have := up (L + 1)
    have := C_nn L (ss.zip as)
    omega
theorem dealt_at {c L : Int} {ss as : List Int} {i : Nat} {s a v : Int} (hs : ss[i]? = some s) (ha : as[i]? = some a) (hv : (dealtOf c L ss as)[i]? = some v) : min s a ≤ v ∧ v ≤ a ∧ min a L ≤ v ∧ v ≤ max (min s a) (L + 1) := by
  rw [dealt_D] at hv
  exact f_bd (p := (s, a)) (List.getElem?_zip_eq_some.mpr ⟨hs, ha⟩) hv

/-! who has been given what: none is ahead of one that could still be given -/
structure Fair (gs hs as : List Int) : Prop where
  l1 : gs.length = as.length
  l2 : hs.length = as.length
  bd : ∀ (i : Nat) (g h a : Int), gs[i]? = some g → hs[i]? = some h → as[i]? = some a → g ≤ h ∧ h ≤ a
  row : ∀ (i j : Nat) (g h h' a' : Int), gs[i]? = some g → hs[i]? = some h → hs[j]? = some h' → as[j]? = some a' → g < h → h' < a' → h - 1 < h' ∨ (h - 1 = h' ∧ i < j)
theorem eq_of_le : ∀ {xs ys : List Int}, xs.length = ys.length → (∀ (i : Nat) x y, xs[i]? = some x → ys[i]? = some y → x ≤ y) → xs.sum = ys.sum → xs = ys
  | [], [], _, _, _ => rfl
  | [], _ :: _, h, _, _ => by cases h
  | _ :: _, [], h, _, _ => by cases h
  | x :: xs, y :: ys, h, k, e => by
    have h2 : xs.length = ys.length := by simpa using h
    have k2 : ∀ (i : Nat) x y, xs[i]? = some x → ys[i]? = some y → x ≤ y := fun i a b p q => k (i + 1) a b (by simpa using p) (by simpa using q)
    have k0 := k 0 x y rfl rfl
    have s := sum_pt h2 k2
    rw [List.sum_cons, List.sum_cons] at e
    obtain rfl : x = y := by omega
    rw [eq_of_le h2 k2 (by omega)]
theorem fair_one {gs hs ks as : List Int} (F : Fair gs hs as) (G : Fair gs ks as) (e : hs.sum = ks.sum) : hs = ks := by
  have hl : hs.length = ks.length := by rw [F.l2, G.l2]
  by_cases c1 : ∀ (i : Nat) x y, hs[i]? = some x → ks[i]? = some y → x ≤ y
  · exact eq_of_le hl c1 e
  by_cases c2 : ∀ (i : Nat) x y, ks[i]? = some x → hs[i]? = some y → x ≤ y
  · exact (eq_of_le hl.symm c2 e.symm).symm
  exfalso
  simp only [Classical.not_forall, Int.not_le] at c1 c2
  obtain ⟨i, x, y, hx, hy, lt1⟩ := c1
  obtain ⟨j, u, v, hu, hv, lt2⟩ := c2
  have li : i < as.length := by rw [← F.l2]; exact (List.getElem?_eq_some_iff.mp hx).1
  have lj : j < as.length := by rw [← F.l2]; exact (List.getElem?_eq_some_iff.mp hv).1
  have ai : as[i]? = some as[i] := List.getElem?_eq_getElem li
  have aj : as[j]? = some as[j] := List.getElem?_eq_getElem lj
  have gi : gs[i]? = some (gs[i]'(by rw [F.l1]; exact li)) := List.getElem?_eq_getElem _
  have gj : gs[j]? = some (gs[j]'(by rw [F.l1]; exact lj)) := List.getElem?_eq_getElem _
  have b1 := F.bd _ _ _ _ gi hx ai
  have b2 := G.bd _ _ _ _ gi hy ai
  have b3 := F.bd _ _ _ _ gj hv aj
  have b4 := G.bd _ _ _ _ gj hu aj
  have r1 := F.row i j _ _ _ _ gi hx hv aj (by omega) (by omega)
  have r2 := G.row j i _ _ _ _ gj hu hy ai (by omega) (by omega)
  omega
theorem fair_got {gs as : List Int} (l : gs.length = as.length) (b : ∀ (i : Nat) (g a : Int), gs[i]? = some g → as[i]? = some a → g ≤ a) : Fair gs gs as :=
  ⟨l, l, fun i g h a h1 h2 h3 => by rw [h1] at h2; cases h2; exact ⟨Int.le_refl _, b i g a h1 h3⟩, fun i j g h h' a' h1 h2 _ _ lt _ => by rw [h1] at h2; cases h2; omega⟩
/-- one more for the first of those that have least -/
theorem fair_step {gs hs as : List Int} {k : Nat} {x a : Int} (F : Fair gs hs as) (hx : hs[k]? = some x) (ha : as[k]? = some a) (lt : x < a) (best : ∀ (j : Nat) (y b : Int), hs[j]? = some y → as[j]? = some b → y < b → x < y ∨ (x = y ∧ k ≤ j)) : Fair gs (hs.set k (x + 1)) as := by
  have lk : k < hs.length := (List.getElem?_eq_some_iff.mp hx).1
  have at_ : ∀ {i : Nat} {h : Int}, (hs.set k (x + 1))[i]? = some h → (i = k ∧ h = x + 1) ∨ (i ≠ k ∧ hs[i]? = some h) := fun {i h} e => by
    rw [List.getElem?_set] at e
    by_cases c : k = i
    · subst c
      rw [if_pos rfl, if_pos lk] at e
      exact .inl ⟨rfl, (Option.some.inj e).symm⟩
    · rw [if_neg c] at e
      exact .inr ⟨fun z => c z.symm, e⟩
  refine ⟨F.l1, by rw [List.length_set]; exact F.l2, fun i g h a' h1 h2 h3 => ?_, fun i j g h h' a' h1 h2 h3 h4 r u => ?_⟩
  · rcases at_ h2 with ⟨rfl, rfl⟩ | ⟨_, h2⟩
    · rw [ha] at h3; cases h3
      have := F.bd _ _ _ _ h1 hx ha
      omega
    · exact F.bd _ _ _ _ h1 h2 h3
  · rcases at_ h2 with ⟨rfl, rfl⟩ | ⟨ni, h2'⟩
    · rcases at_ h3 with ⟨rfl, rfl⟩ | ⟨nj, h3'⟩
      · omega
      · have := best j h' a' h3' h4 u
        omega
    · rcases at_ h3 with ⟨rfl, rfl⟩ | ⟨nj, h3'⟩
      · rw [ha] at h4; cases h4
        have := F.row i _ _ _ _ _ h1 h2' hx ha r lt
        omega
      · exact F.row i j _ _ _ _ h1 h2' h3' h4 r u
theorem C_mono (l : Int) (ps : List Pr) {i j : Nat} (h : i ≤ j) : C l (ps.take i) ≤ C l (ps.take j) := by
  have e : ps.take j = ps.take i ++ (ps.take j).drop i := by
    have := (List.take_append_drop i (ps.take j)).symm
    rwa [List.take_take, Nat.min_eq_left h] at this
  have ap : ∀ xs ys : List Pr, C l (xs ++ ys) = C l xs + C l ys := fun xs ys => by
    unfold C; rw [List.map_append, List.sum_append]
  rw [e, ap]
  have := C_nn l ((ps.take j).drop i)
  omega
theorem fair_dealt {c L : Int} {ss as : List Int} (f : Fit c ss as) : Fair (gotOf ss as) (dealtOf c L ss as) as := by
  have zl : (ss.zip as).length = as.length := by rw [List.length_zip, f.len]; omega
  have dlen : (dealtOf c L ss as).length = as.length := by rw [dealt_D, D_len, zl]
  have gl : (gotOf ss as).length = as.length := by unfold gotOf; rw [List.length_map, zl]
  have at_ : ∀ {i : Nat} {h : Int}, (dealtOf c L ss as)[i]? = some h → ∃ p, (ss.zip as)[i]? = some p ∧ as[i]? = some p.2 ∧ (gotOf ss as)[i]? = some (g p) ∧ h = b L p + if C L ((ss.zip as).take i) < c - B L (ss.zip as) ∧ T L p then 1 else 0 := fun {i h} e => by
    have li : i < (ss.zip as).length := by rw [zl, ← dlen]; exact (List.getElem?_eq_some_iff.mp e).1
    have ep : (ss.zip as)[i]? = some (ss.zip as)[i] := List.getElem?_eq_getElem li
    rw [dealt_D, D_get L _ _ i _ ep] at e
    exact ⟨_, ep, (zip_get ep).2, by rw [got_zip, List.getElem?_map, ep]; rfl, (Option.some.inj e).symm⟩
  refine ⟨gl, dlen, fun i g' h a h1 h2 h3 => ?_, fun i j g' h h' a' h1 h2 h3 h4 r u => ?_⟩
  · obtain ⟨p, ep, ea, eg, eh⟩ := at_ h2
    rw [h3] at ea; cases ea
    rw [h1] at eg; cases eg
    have := b_bd (l := L) (p := p)
    subst eh
    by_cases q : C L ((ss.zip as).take i) < c - B L (ss.zip as) ∧ T L p
    · rw [if_pos q]
      have := q.2
      unfold T at this
      omega
    · rw [if_neg q]; omega
  · obtain ⟨p, ep, ea, eg, eh⟩ := at_ h2
    obtain ⟨q, eq, ea', eg', eh'⟩ := at_ h3
    rw [h4] at ea'; cases ea'
    rw [h1] at eg; cases eg
    subst eh eh'
    have cm : j ≤ i → C L ((ss.zip as).take j) ≤ C L ((ss.zip as).take i) := C_mono L _
    by_cases d1 : C L ((ss.zip as).take i) < c - B L (ss.zip as) ∧ T L p
    · rw [if_pos d1] at r ⊢
      by_cases d2 : C L ((ss.zip as).take j) < c - B L (ss.zip as) ∧ T L q
      · rw [if_pos d2] at u ⊢
        unfold T b g at *
        omega
      · rw [if_neg d2] at u ⊢
        by_cases d3 : T L q
        · have d4 : ¬ C L ((ss.zip as).take j) < c - B L (ss.zip as) := fun z => d2 ⟨z, d3⟩
          have d5 : i < j := by
            apply Nat.lt_of_not_le
            intro z
            have := cm z
            omega
          unfold T b g at *
          omega
        · unfold T b g at *
          omega
    · rw [if_neg d1] at r ⊢
      by_cases d2 : C L ((ss.zip as).take j) < c - B L (ss.zip as) ∧ T L q
      · rw [if_pos d2] at u ⊢
        unfold T b g at *
        omega
      · rw [if_neg d2] at u ⊢
        unfold T b g at *
        omega
end K61

namespace K61
theorem pair_lt {x y i j : Int} : [x, i] < [y, j] ↔ x < y ∨ (x = y ∧ i < j) := by
  simp [List.cons_lt_cons_iff]
theorem minR_mem : ∀ (rs : List (List Int)) (r : List Int), minR r rs ∈ r :: rs
  | [], r => List.mem_cons_self
  | s :: rs, r => by
    have ih := minR_mem rs (if s < r then s else r)
    have e : minR r (s :: rs) = minR (if s < r then s else r) rs := rfl
    rw [e]
    rcases List.mem_cons.mp ih with h | h
    · rw [h]
      split
      · exact List.mem_cons_of_mem _ List.mem_cons_self
      · exact List.mem_cons_self
    · exact List.mem_cons_of_mem _ (List.mem_cons_of_mem _ h)
theorem minR_le : ∀ (rs : List (List Int)) (r : List Int) (y : List Int), y ∈ r :: rs → ¬ y < minR r rs
  | [], r, y, h => by
    rw [List.mem_singleton.mp h]
    exact List.lt_irrefl _
  | s :: rs, r, y, h => by
    have e : minR r (s :: rs) = minR (if s < r then s else r) rs := rfl
    rw [e]
    have ih := minR_le rs (if s < r then s else r)
    by_cases c : s < r
    · rw [if_pos c] at ih ⊢
      rcases List.mem_cons.mp h with rfl | h
      · intro z
        exact ih s List.mem_cons_self (List.lt_trans c z)
      · exact ih y h
    · rw [if_neg c] at ih ⊢
      rcases List.mem_cons.mp h with rfl | h
      · exact ih y List.mem_cons_self
      · rcases List.mem_cons.mp h with rfl | h
        · intro z
          have := ih r List.mem_cons_self
          exact this (List.lt_of_le_of_lt (List.not_lt.mp c) z)
        · exact ih y (List.mem_cons_of_mem _ h)
def wantF (hs as : List Int) (i : Nat) : Option (List Int) := match hs[i]?, as[i]? with
  | some g, some a => if g < a then some [g, (i : Int)] else none
  | _, _ => none
theorem wantF_some {hs as : List Int} {i : Nat} {r : List Int} (h : wantF hs as i = some r) : ∃ x a, hs[i]? = some x ∧ as[i]? = some a ∧ x < a ∧ r = [x, (i : Int)] := by
  unfold wantF at h
  split at h
  · rename_i g a e1 e2
    split at h
    · exact ⟨g, a, e1, e2, by assumption, (Option.some.inj h).symm⟩
    · cases h
  · cases h
theorem wantF_of {hs as : List Int} {i : Nat} {x a : Int} (h1 : hs[i]? = some x) (h2 : as[i]? = some a) (h : x < a) : wantF hs as i = some [x, (i : Int)] := by
  unfold wantF
  rw [h1, h2]
  dsimp only
  rw [if_pos h]
theorem want_done {gs hs as : List Int} {n : Nat} (F : Fair gs hs as) (hn : n = hs.length) (h : (List.range n).filterMap (wantF hs as) = []) : hs = as := by
  refine eq_of_le F.l2 (fun i x y hx hy => ?_) ?_
  · have := F.bd i _ x y (List.getElem?_eq_getElem (by rw [F.l1]; exact (List.getElem?_eq_some_iff.mp hy).1)) hx hy
    exact this.2
  · have le1 : hs.sum ≤ as.sum := sum_pt F.l2 fun i x y hx hy => (F.bd i _ x y (List.getElem?_eq_getElem (by rw [F.l1]; exact (List.getElem?_eq_some_iff.mp hy).1)) hx hy).2
    have le2 : as.sum ≤ hs.sum := sum_pt F.l2.symm fun i x y hx hy => by
      refine Int.not_lt.mp fun z => ?_
      have := List.filterMap_eq_nil_iff.mp h i (List.mem_range.mpr (by rw [hn]; exact (List.getElem?_eq_some_iff.mp hy).1))
      rw [wantF_of hy hx z] at this
      cases this
    omega
theorem want_next {gs hs as : List Int} {n : Nat} {r : List Int} {rs : List (List Int)} (F : Fair gs hs as) (hn : n = hs.length) (h : (List.range n).filterMap (wantF hs as) = r :: rs) : ∃ (k : Nat) (x a : Int), minR r rs = [x, (k : Int)] ∧ hs[k]? = some x ∧ as[k]? = some a ∧ x < a ∧ Fair gs (hs.set k (x + 1)) as := by
  have hm := minR_mem rs r
  rw [← h] at hm
  obtain ⟨k, _, hk⟩ := List.mem_filterMap.mp hm
  obtain ⟨x, a, h1, h2, h3, h4⟩ := wantF_some hk
  refine ⟨k, x, a, h4, h1, h2, h3, fair_step F h1 h2 h3 fun j y b e1 e2 lt => ?_⟩
  have hj : [y, (j : Int)] ∈ r :: rs := by
    rw [← h]
    exact List.mem_filterMap.mpr ⟨j, List.mem_range.mpr (by rw [hn]; exact (List.getElem?_eq_some_iff.mp e1).1), wantF_of e1 e2 lt⟩
  have := minR_le rs r _ hj
  rw [h4, pair_lt] at this
  omega
theorem set_sum : ∀ {l : List Int} {k : Nat} {x v : Int}, l[k]? = some x → (l.set k v).sum = l.sum - x + v
  | [], _, _, _, h => by cases h
  | y :: l, 0, x, v, h => by
    cases h
    rw [List.set_cons_zero, List.sum_cons, List.sum_cons]; omega
  | y :: l, k + 1, x, v, h => by
    rw [List.set_cons_succ, List.sum_cons, List.sum_cons, set_sum (l := l) (by simpa using h)]; omega
section
variable {P : Program} {w : World} {K : PySem.W.Frag} {mg : Str → Option Value} {base : Heap}
abbrev s__law_by_one : Stmt := top 18
theorem sc__law_by_one : FnScope ["capacity", "shares", "asks", "got", "pair", "turn", "want", "at"] ["capacity", "shares", "asks"] (defScope s__law_by_one) := ⟨rfl, rfl, rfl, by decide +kernel, rfl, by decide +kernel, by decide +kernel⟩
def sp_by_one (K : PySem.W.Frag) : Sp := fun vs H Q _ => ∃ (a b : Addr) (ss as : List Int) (c : Int), vs = [.int c, .ref a, .ref b] ∧ SqT K H a (ss.map V.int) ∧ SqT K H b (as.map V.int) ∧ Fit c ss as ∧ c ≤ 100000 ∧ ss.length ≤ 12 ∧
  ∀ H' p hs, Ex H H' → SqT K H' p (hs.map V.int) → Fair (gotOf ss as) hs as → hs.sum = min c as.sum → Q (.ref p) H'
theorem ok__law_by_one (C : Cx0 K mg base) : Cal P w K mg base 1 "_law_by_one" ["capacity", "shares", "asks"] (sp_by_one K) := by
  refine C.cal 10 10 rfl rfl sc__law_by_one (fun _ _ _ _ _ _ us hl => match us, hl with | [_, _, _], _ => rfl) (fun vs H Q E h => ?_) (fun f cdv A outer s H vs Q E hr h => ⟨_, PSs.nox
    (pss_cons (ps_set (i := 3) sc__law_by_one.nd rfl (Or.inr rfl) (pe_lc (own := [("pair", 4)]) rfl sc__law_by_one.nd (k_zipN (K := K) rfl rfl (C.free 24) (pa_cons (pv 1) (pa_cons (pv 2) pa_nil))) (blkOk_by (N := ["capacity", "shares", "asks", "got", "pair", "turn", "want", "at"]) (sc := defScope s__law_by_one) (by decide +kernel)) (fun _ _ _ _ _ => (pg_name (i := 4) sc__law_by_one.nd rfl (Or.inl rfl))) (fun _ _ _ _ _ => pts_nil) (fun _ _ _ _ _ => (pe_bi (cr_min2 rfl) (C.free 22) (by decide +kernel) (pa_cons (pe_ix (k_ix (K := K) rfl) (pv 4) pe_int (fun _ _ => rfl)) (pa_cons (pe_ix (k_ix (K := K) rfl) (pv 4) pe_int (fun _ _ => rfl)) pa_nil))))))
      (pss_cons (ps_for PassesOwn.never rfl (pi_range1 rfl (C.free 17) (pa_cons (pe_op op_sub (pv 0) (pe_bi (k_sum (K := K) rfl rfl) (C.free 21) (by decide +kernel) (pa_cons (pv 3) pa_nil))) pa_nil)) (pg_name (i := 5) sc__law_by_one.nd rfl (Or.inl rfl))
      (pss_cons (ps_setLc (i := 6) (own := [("at", 7)]) rfl sc__law_by_one.nd rfl rfl (sw_true rfl rfl rfl (by decide +kernel)) (pi_range1 rfl (C.free 17) (pa_cons (pe_bi (k_len (K := K) rfl) (C.free 25) (by decide +kernel) (pa_cons (pv 3) pa_nil)) pa_nil)) (blkOk_by (N := ["capacity", "shares", "asks", "got", "pair", "turn", "want", "at"]) (sc := defScope s__law_by_one) (by decide +kernel)) (fun _ _ _ _ _ => (pg_name (i := 7) sc__law_by_one.nd rfl (Or.inl rfl))) (fun _ _ _ _ _ => pts_one (pt_cmpR (k_lt (K := K) rfl hr) (pe_ix (k_ix (K := K) rfl) (pv 3) (pv 7) (fun _ _ => rfl)) (pe_ix (k_ix (K := K) rfl) (pv 2) (pv 7) (fun _ _ => rfl)) (nomark _))) (fun _ _ _ _ _ => (pe_tup (pa_cons (pe_ix (k_ix (K := K) rfl) (pv 3) (pv 7) (fun _ _ => rfl)) (pa_cons (pv 7) pa_nil)))))
      (pss_cons (ps_if (pt_cmpR (k_eq (K := K) rfl hr) (pv 6) (pe_lst pa_nil) (nomark _)) (pss_one ps_break) pss_nil)
      (pss_cons (ps_set (i := 7) sc__law_by_one.nd rfl (Or.inl rfl) (pe_ix (k_ix (K := K) rfl) (pe_bi (k_minR (K := K) rfl hr rfl) (C.free 22) (by decide +kernel) (pa_cons (pv 6) pa_nil)) pe_int (fun _ _ => rfl)))
      (pss_one (ps_asg (pe_op (k_add (K := K) rfl) (pe_ix (k_ix (K := K) rfl) (pv 3) (pv 7) (fun _ _ => rfl)) pe_int) (pg_sub (pv 3) (pv 7) set_list)))))))
      (pss_one (ps_ret (pe_bt (k_tuple (K := K) rfl) (C.free 16) (by decide +kernel) (pa_cons (pv 3) pa_nil)))))), ?_⟩)
  · obtain ⟨a, b, ss, as, c, rfl, _⟩ := h
    rfl
  · obtain ⟨a, b, ss, as, c, rfl, ha, hb, f, c1, n12, k⟩ := h
    repeat walk_at "rd"
    refine c_zipNI (k1 := .t) (k2 := .t) ha hb (fun x y => min x y) f.len (by omega) (fun _ => rfl) ?_ ?_
    · intro x y T H1 q N hxy e1 hT hq
      repeat walk_at "rd"
      refine r_ixTI (i := 0) (ns := [x, y]) sqT_new rfl ?_
      repeat walk_at "rd"
      refine r_ixTI (i := 1) (ns := [x, y]) sqT_new rfl ?_
      repeat walk_at "rd"
      exact hq _ (Ex.new hT)
    intro G H1 hG e1 hg
    obtain ⟨gs, egs⟩ : ∃ gs, gs = gotOf ss as := ⟨_, rfl⟩
    have hg : H1 G = some (.lst (gs.map V.int)) := by rw [hg, egs]; rfl
    have gl : gs.length = as.length := by rw [egs, got_len f.len.symm, f.len]
    have gsum : gs.sum ≤ c := by
      have := got_le (ss := ss) (as := as) f.ps f.len
      have := f.le
      rw [egs]; omega
    have g0 : 0 ≤ gs.sum := by
      refine sum_nn fun n hn => ?_
      rw [egs] at hn
      unfold gotOf at hn
      obtain ⟨p, hp, rfl⟩ := List.mem_map.mp hn
      have h1 := f.ps p.1 (List.of_mem_zip hp).1
      have h2 := f.pa p.2 (List.of_mem_zip hp).2
      omega
    have fair0 : Fair gs gs as := fair_got gl fun i g a h1 h2 => by
      rw [egs] at h1
      unfold gotOf at h1
      rw [List.getElem?_map] at h1
      obtain ⟨p, hp, rfl⟩ := Option.map_eq_some_iff.mp h1
      have := (List.getElem?_zip_eq_some.mp hp).2
      rw [h2] at this
      cases this
      omega
    rw [← egs] at k
    clear egs
    repeat walk_at "rd"
    refine r_sumL (sqL_of hg) ?_
    repeat walk_at "rd"
    obtain ⟨n, hn⟩ := Int.eq_ofNat_of_zero_le (show 0 ≤ c - gs.sum by omega)
    rw [hn]
    refine n_1 (by omega) ?_
    rw [Int.toNat_natCast]
    have fin : ∀ (hs : List Int) (H5 : Hp), Ex H H5 → H5 G = some (.lst (hs.map V.int)) → Fair gs hs as → hs.sum = min c as.sum → rTupA K [.ref G] H5 Q := fun hs H5 e5 h5 F5 s5 => r_tupL (sqL_of h5) fun p hp => k _ p hs (e5.trans (Ex.new hp)) sqT_new F5 s5
    refine f_rng (fun i σ H' => ∃ (hs : List Int) (x4 x5 x6 x7 : Option V), σ = [some (.int c), some (.ref a), some (.ref b), some (.ref G), x4, x5, x6, x7] ∧ Ex H H' ∧ H' G = some (.lst (hs.map V.int)) ∧ Fair gs hs as ∧ hs.sum = gs.sum + i) ⟨gs, _, _, _, _, rfl, e1, hg, fair0, by omega⟩ ?_ ?_
    · rintro i σ H2 hi ⟨hs, x4, x5, x6, x7, rfl, e2, h2, F2, s2⟩
      rw [Int.zero_add]
      have hlen : hs.length = as.length := F2.l2
      repeat walk_at "rd"
      refine r_lenLI (sqL_of h2) ?_
      repeat walk_at "rd"
      refine n_1 (by have := f.len; omega) ?_
      rw [Int.toNat_natCast]
      refine c_rngR (K := K) (wantF hs as) (by have := f.len; omega) (fun _ => rfl) ?_ ?_
      · intro j H3 q N hj e3 hq hN
        have h3 := e3 _ _ h2
        have hjx : hs[j]? = some hs[j] := List.getElem?_eq_getElem hj
        have hja : as[j]? = some (as[j]'(by omega)) := List.getElem?_eq_getElem _
        rw [Int.zero_add]
        repeat walk_at "rd"
        refine r_ixLI (sqL_of h3) hjx ?_
        repeat walk_at "rd"
        refine r_ixTI (sqT_ex (e2.trans e3) hb) hja ?_
        repeat walk_at "rd"
        by_cases lt : hs[j] < as[j]'(by omega)
        · refine r_T (decide_eq_true lt) ?_
          repeat walk_at "rd"
          refine r_ixLI (sqL_of h3) hjx ?_
          repeat walk_at "rd"
          exact ⟨(show 2 ≤ sizeLine by decide), fun p hp => hq _ [hs[j], (j : Int)] _ (wantF_of hjx hja lt) (Ex.new hp) ⟨p, rfl, sqT_new⟩⟩
        · refine r_F (decide_eq_false lt) ?_
          refine hN ?_ _ (Ex.refl _)
          unfold wantF
          rw [hjx, hja]
          dsimp only
          rw [if_neg lt]
      intro W H3 us hW e3 h3 rows
      repeat walk_at "rd"
      refine ⟨(show 0 ≤ sizeLine by decide), fun q hq => ?_⟩
      refine r_eqR0 (sqL_up hq (sqL_of h3)) (rows.ex (Ex.new hq)) sqL_new ?_
      have e4 := (e2.trans e3).trans (Ex.new (o := .lst []) hq)
      have h4 : upd H3 q (.lst []) G = some (.lst (hs.map V.int)) := at_up hq (e3 _ _ h2)
      have rows4 := rows.ex (Ex.new (o := .lst []) hq)
      have hW4 : upd H3 q (.lst []) W = some (.lst us) := at_up hq h3
      generalize upd H3 q (.lst []) = H4 at *
      cases er : (List.range hs.length).filterMap (wantF hs as) with
      | nil =>
        repeat walk_at "rd"
        have e := want_done F2 rfl er
        refine fin hs H4 e4 h4 F2 ?_
        rw [e] at s2 ⊢
        omega
      | cons r rs =>
        obtain ⟨kk, x, av, em, hx, hav, lt, F3⟩ := want_next F2 rfl er
        rw [er] at rows4
        repeat walk_at "rd"
        refine r_minR (sqL_of hW4) rows4 fun m v hv hm row => ?_
        obtain ⟨p, rfl, hp⟩ := row
        rw [em] at hp
        repeat walk_at "rd"
        refine r_ixTI (i := 1) hp rfl ?_
        repeat walk_at "rd"
        refine r_ixLI (sqL_of h4) hx ?_
        repeat walk_at "rd"
        have lk : kk < hs.length := (List.getElem?_eq_some_iff.mp hx).1
        refine r_setL h4 (by rw [List.length_map]; exact lk) ?_
        repeat walk_at "rd"
        refine ⟨hs.set kk (x + 1), _, _, _, _, rfl, fun z o hz => ?_, ?_, F3, ?_⟩
        · have : z ≠ G := fun e => by rw [e, hG] at hz; cases hz
          exact (upd_ne this).trans (e4 z o hz)
        · rw [upd_same, List.map_set]
        · rw [set_sum hx]; omega
    · rintro σ H2 ⟨hs, x4, x5, x6, x7, rfl, e2, h2, F2, s2⟩
      repeat walk_at "rd"
      refine fin hs H2 e2 h2 F2 ?_
      · have : hs.sum ≤ as.sum := sum_pt F2.l2 fun i x y hx hy => (F2.bd i _ x y (List.getElem?_eq_getElem (by rw [F2.l1]; exact (List.getElem?_eq_some_iff.mp hy).1)) hx hy).2
        omega
end
end K61

local macro_rules | `(tactic| walk_at "rd") => `(tactic| first
  | with_reducible refine r_eqZ ?_
  | with_reducible refine r_neZ ?_
  | with_reducible refine r_callS ?_)
namespace K61
section
variable {P : Program} {w : World} {K : PySem.W.Frag} {mg : Str → Option Value} {base : Heap}
abbrev Q0 : Str := "_law_right.<locals>.<lambda>"
theorem sqT_en {H H' : Hp} {a d : Addr} {xs : List V} (e : EN d H H') (hn : a ≠ d) (h : SqT K H a xs) : SqT K H' a xs := by
  rcases h with (h | ⟨o, h⟩) | h
  · exact .inl (.inl (e _ _ hn h fun _ z => by cases z))
  · exact .inl (.inr ⟨o, e _ _ hn h fun _ z => by cases z⟩)
  · exact .inr h
/-- what is no tuple of amounts -/
def Odd (d : Addr) (H : Hp) (v : V) : Prop := v = .non ∨ (∃ s, v = .str s) ∨ (∃ a xs, v = .ref a ∧ a ≠ d ∧ H a = some (.lst xs)) ∨ ∃ a xs, v = .ref a ∧ a ≠ d ∧ H a = some (.tup xs) ∧ okA xs = false ∧ ∀ x ∈ xs, (∃ i, x = .int i) ∨ ∃ b, x = .bl b
theorem Odd.en {d : Addr} {H H' : Hp} {v : V} (e : EN d H H') (h : Odd d H v) : Odd d H' v := by
  rcases h with h | h | ⟨a, xs, h1, h2, h3⟩ | ⟨a, xs, h1, h2, h3, h4⟩
  · exact .inl h
  · exact .inr (.inl h)
  · exact .inr (.inr (.inl ⟨a, xs, h1, h2, (e _ _ h2 h3 fun _ z => by cases z)⟩))
  · exact .inr (.inr (.inr ⟨a, xs, h1, h2, (e _ _ h2 h3 fun _ z => by cases z), h4⟩))
theorem Odd.am {d : Addr} {H : Hp} {v : V} (h : Odd d H v) : Am K H v false := by
  rcases h with rfl | ⟨s, rfl⟩ | ⟨a, xs, rfl, h2, h3⟩ | ⟨a, xs, rfl, h2, h3, h4, h5⟩
  · exact .inl ⟨_, .non, by decide, rfl⟩
  · exact .inl ⟨_, .str _, by decide, rfl⟩
  · exact .inl ⟨_, .lst h3, by decide, rfl⟩
  · refine .inr ⟨a, xs, rfl, .inl (.inl h3), fun x hx => ?_, h4.symm⟩
    rcases h5 x hx with ⟨i, rfl⟩ | ⟨b, rfl⟩
    · exact ⟨_, .int i⟩
    · exact ⟨_, .bl b⟩
def rev3 {α : Type} : List α → List α
  | [a, b, c] => [c, b, a]
  | l => l
theorem ok_dealtK (C : Cx0 K mg base) (O : OBad P w K mg base) : CalK P w K mg base 4 "dealt" ["asks", "shares", "capacity"] (sp_dealt K) rev3 :=
  C.calK 5 5 (ps := ["capacity", "shares", "asks"]) (ks := ["asks", "shares", "capacity"]) (g := rev3) (gV := rev3) rfl rfl sc_dealt (fun zs ws h => by
    match zs, ws, h with
    | [], _, .nil => exact .nil
    | [_], _, .cons a .nil => exact .cons a .nil
    | [_, _], _, .cons a (.cons b .nil) => exact .cons a (.cons b .nil)
    | [_, _, _], _, .cons a (.cons b (.cons c .nil)) => exact .cons c (.cons b (.cons a .nil))
    | _ :: _ :: _ :: _ :: _, _, .cons a (.cons b (.cons c (.cons d e))) => exact .cons a (.cons b (.cons c (.cons d e)))) (fun _ _ _ _ _ _ ws hl => match ws, hl with | [_, _, _], _ => rfl) body_dealt_len (body_dealt C O)
abbrev s__law_refused : Stmt := top 17
theorem sc__law_refused : FnScope ["call", "e"] ["call"] (defScope s__law_refused) := ⟨rfl, rfl, rfl, by decide +kernel, rfl, by decide +kernel, by decide +kernel⟩
theorem ref_ok (C : Cx0 K mg base) (o : OBad P w K mg base) : Ref K mg "_law_refused" (clsA K "BadArgument") "name" "" := by
  obtain ⟨fd, F⟩ := C.says.def_ 9 (d := dd "_law_refused" 17) rfl
  have kp := F.kp
  have hb : Binds K fd ["call"] [] := FunD.bindsN F (fun _ _ _ _ _ _ us hl => match us, hl with | [_], _ => rfl)
  obtain ⟨oc, od, dV, kV, doc, pm, an, cdv, ct, osl, rfl, lk, hcd, _, _⟩ := F.ex
  exact ⟨_, oc, od, osl, _, _, _, dV, kV, doc, pm, cdv, ct, an, "call", "e", lk, kp, hcd, He.glo_ok C.kin C.glob (C.says.fact 9 (f := .glo "_law_refused") rfl), hb, sc__law_refused, rfl, ⟨by decide, by decide⟩, fun X eK emg q =>
    ref_gives (e := "BadArgument") rfl (by rw [emg]; exact o.1) (by decide) (by rw [eK]; exact o.2.2.2.2.1.1) (by rw [eK]; exact o.2.2.2.2.1.2) (by rw [eK]; exact o.2.2.2.2.2.1) (by decide +kernel) rfl (by decide) (by decide) (fun _ => rfl) (fun _ => rfl)⟩
theorem en_of {d : Addr} {H X H' : Hp} (e : ExB d X H') (h : Ex H X) : EN d H H' := (EN.e h).tr (EN.b e)
theorem tabs_of {T : List (Addr × Str)} {n : Nat} {d : Addr} {H X H' : Hp} (hd : Dice n H d) (e : ExB d X H') (h : Ex H X) (t : LamX.Tabs T H) : LamX.Tabs T H' := (hd.ex h).tabs e (t.ext h)
theorem odd_of {d : Addr} {X H' : Hp} {v : V} (e : ExB d X H') (h : Odd d X v) : Odd d H' v := h.en (EN.b e)
theorem Dice.keep {H H' : Hp} {d : Addr} {xs : List V} (h : H d = some (.lst xs)) (e : ExN H H') : H' d = some (.lst xs) := e _ _ h fun _ z => by cases z
theorem sp_long {c : Int} {a b : Addr} {ss as : List Int} {H : Hp} {Q : VK} {E : XK} (c0 : 0 ≤ c) (c1 : c ≤ 10000) (ha : SqT K H a (ss.map V.int)) (o1 : okAm ss) (hs : ss.sum ≤ c) (o2 : okAm as) (hl : as.length = ss.length) (hb : SqT K H b ((as ++ [0]).map V.int)) (r : Refuses K "asks" H E) : sp_dealt K [.int c, .ref a, .ref b] H Q E := by
  refine ⟨_, _, _, "int", rfl, .int _, .inr ⟨c, rfl, c0, c1, .inr ⟨a, ss, rfl, ha, o1, .inr ⟨hs, ?_⟩⟩⟩⟩
  by_cases h : as.length = 12
  · refine .inl ⟨.inr ⟨b, _, rfl, hb, fun x hx => ?_, ?_⟩, r⟩
    · obtain ⟨n, _, rfl⟩ := List.mem_map.mp hx
      exact ⟨_, .int n⟩
    · unfold okA
      rw [List.length_map, List.length_append, List.length_singleton, decide_eq_false (show ¬ as.length + 1 ≤ 12 by omega), Bool.false_and, Bool.and_false]
  · refine .inr ⟨b, as ++ [0], rfl, hb, ⟨by rw [List.length_append]; have := o2.1; omega, by rw [List.length_append, List.length_singleton]; have := o2.2.1; omega, fun n hn => ?_⟩, .inl ⟨by rw [List.length_append, List.length_singleton]; omega, r⟩⟩
    rcases List.mem_append.mp hn with hn | hn
    · exact o2.2.2 n hn
    · rw [List.mem_singleton.mp hn]; decide
theorem mem_b {lo hi : Int} {x : Int} (l : List Int) (h : ∀ (i : Nat) v, l[i]? = some v → lo ≤ v ∧ v ≤ hi) (hx : x ∈ l) : lo ≤ x ∧ x ≤ hi := by
  obtain ⟨i, hi⟩ := List.mem_iff_getElem?.mp hx
  exact h i x hi
theorem dealt_show {c L : Int} {ss as : List Int} (f : Fit c ss as) (n : as.length ≤ 12) : ∀ x ∈ dealtOf c L ss as, -1000000 ≤ x ∧ x ≤ 1000000 := fun x hx => by
  obtain ⟨i, hi⟩ := List.mem_iff_getElem?.mp hx
  have li : i < as.length := by rw [← dealt_len f (L := L)]; exact (List.getElem?_eq_some_iff.mp hi).1
  have ls : i < ss.length := by rw [f.len]; exact li
  have h1 := dealt_at (List.getElem?_eq_getElem ls) (List.getElem?_eq_getElem li) hi
  have h2 := f.pa _ (List.getElem_mem li)
  have h3 := f.ps _ (List.getElem_mem ls)
  omega
abbrev s__law_roll : Stmt := top 15
theorem sc__law_roll : FnScope ["dice", "total", "found"] ["dice", "total"] (defScope s__law_roll) := ⟨rfl, rfl, rfl, by decide +kernel, rfl, by decide +kernel, by decide +kernel⟩
def sp_roll : Sp := fun vs H Q _ => ∃ (d : Addr) (t : Int) (n : Nat), vs = [.ref d, .int t] ∧ Dice n H d ∧ n < 1000000000000 ∧ 0 < t ∧ t < 1073741824 ∧
  ∀ r H', 0 ≤ r → r < t → ExB d H H' → Dice (n + 1) H' d → Q (.int r) H'
theorem ok__law_roll (C : Cx0 K mg base) : Cal P w K mg base 1 "_law_roll" ["dice", "total"] sp_roll := by
  refine C.cal 7 7 rfl rfl sc__law_roll (fun _ _ _ _ _ _ us hl => match us, hl with | [_, _], _ => rfl) (fun vs H Q E h => ?_) (fun f cdv A outer s H vs Q E hr h => ⟨_, PSs.nox
    (pss_cons (ps_if (pt_cmpR (k_gt (K := K) rfl hr) (pe_ix (k_ix (K := K) rfl) (pv 0) pe_int (fun _ _ => rfl)) pe_int (nomark _)) (pss_cons (ps_set (i := 2) sc__law_roll.nd rfl (Or.inl rfl) (pe_op op_modN (pe_bt cr_int1 (C.free 20) (by decide +kernel) (pa_cons (pe_ix (k_ix (K := K) rfl) (pv 0) pe_int (fun _ _ => rfl)) pa_nil)) (pv 1)))
      (pss_cons (ps_asg (pe_op op_fdivN (pe_ix (k_ix (K := K) rfl) (pv 0) pe_int (fun _ _ => rfl)) (pv 1)) (pg_sub (pv 0) pe_int set_list))
      (pss_one (ps_ret (pv 2))))) pss_nil)
      (pss_cons (ps_asg (pe_op (k_add (K := K) rfl) (pe_ix (k_ix (K := K) rfl) (pv 0) pe_int (fun _ _ => rfl)) pe_int) (pg_sub (pv 0) pe_int set_list))
      (pss_cons (ps_asg (pe_op op_modN (pe_bt cr_int1 (C.free 20) (by decide +kernel) (pa_cons (pe_op (k_add (K := K) rfl) (pe_op (k_add (K := K) rfl) (pe_op (k_mul (K := K) rfl) (pe_ix (k_ix (K := K) rfl) (pv 0) pe_int (fun _ _ => rfl)) pe_int) (pe_op (k_mul (K := K) rfl) (pe_op (k_mul (K := K) rfl) (pe_ix (k_ix (K := K) rfl) (pv 0) pe_int (fun _ _ => rfl)) (pe_ix (k_ix (K := K) rfl) (pv 0) pe_int (fun _ _ => rfl))) pe_int)) pe_int) pa_nil)) pe_int) (pg_sub (pv 0) pe_int set_list))
      (pss_one (ps_ret (pe_op op_modN (pe_bt cr_int1 (C.free 20) (by decide +kernel) (pa_cons (pe_op op_fdivN (pe_ix (k_ix (K := K) rfl) (pv 0) pe_int (fun _ _ => rfl)) pe_int) pa_nil)) (pv 1))))))), ?_⟩)
  · obtain ⟨d, t, n, rfl, _⟩ := h
    rfl
  · obtain ⟨d, t, n, rfl, ⟨x, y, z, hd, x0, y0, y1, z0, z1⟩, hn, t0, t1, k⟩ := h
    repeat walk_at "rd"
    refine r_ixLI (i := 0) (sqL_of hd) rfl ?_
    repeat walk_at "rd"
    by_cases c : 0 < x
    · refine r_T (decide_eq_true c) ?_
      repeat walk_at "rd"
      refine r_ixLI (i := 0) (sqL_of hd) rfl ?_
      repeat walk_at "rd"
      refine r_modI (by omega) ?_
      repeat walk_at "rd"
      refine r_ixLI (i := 0) (sqL_of hd) rfl ?_
      repeat walk_at "rd"
      refine r_divI ⟨by omega, by omega⟩ ?_
      repeat walk_at "rd"
      refine r_setL (i := 0) hd (show 0 < 3 by decide) ?_
      repeat walk_at "rd"
      rw [Int.fmod_eq_emod_of_nonneg _ (by omega), Int.fdiv_eq_ediv_of_nonneg _ (by omega)]
      exact k _ _ (Int.emod_nonneg _ (by omega)) (Int.emod_lt_of_pos _ t0) ExB.put ⟨x / t, y, z, upd_same, Int.ediv_nonneg x0 (by omega), y0, y1, z0, by omega⟩
    · refine r_F (decide_eq_false c) ?_
      repeat walk_at "rd"
      refine r_ixLI (i := 2) (sqL_of hd) rfl ?_
      repeat walk_at "rd"
      refine r_setL (i := 2) hd (show 2 < 3 by decide) ?_
      repeat walk_at "rd"
      have h1 : upd H d (.lst (List.set ([x, y, z].map V.int) 2 (.int (z + 1)))) d = some (.lst ([x, y, z + 1].map V.int)) := upd_same
      refine r_ixLI (i := 1) (sqL_of h1) rfl ?_
      repeat walk_at "rd"
      refine r_mulI (.inr (by omega)) ?_
      repeat walk_at "rd"
      refine r_ixLI (i := 2) (sqL_of h1) rfl ?_
      repeat walk_at "rd"
      refine r_ixLI (i := 2) (sqL_of h1) rfl ?_
      repeat walk_at "rd"
      refine r_mulI (.inr (by omega)) ?_
      repeat walk_at "rd"
      refine r_mulI (.inr (by omega)) ?_
      repeat walk_at "rd"
      refine r_modI (by decide) ?_
      repeat walk_at "rd"
      refine r_setL (i := 1) h1 (show 1 < 3 by decide) ?_
      repeat walk_at "rd"
      rw [Int.fmod_eq_emod_of_nonneg _ (by decide)]
      obtain ⟨u, eu⟩ : ∃ u, u = (y * 52501 + (z + 1) * (z + 1) * 1009 + 77) % 2147480009 := ⟨_, rfl⟩
      rw [← eu]
      have u0 : 0 ≤ u := by rw [eu]; exact Int.emod_nonneg _ (by decide)
      have u1 : u < 2147480009 := by rw [eu]; exact Int.emod_lt_of_pos _ (by decide)
      have h2 : ∀ H0 : Hp, upd H0 d (.lst (List.set ([x, y, z + 1].map V.int) 1 (.int u))) d = some (.lst ([x, u, z + 1].map V.int)) := fun _ => upd_same
      refine r_ixLI (i := 1) (sqL_of (h2 _)) rfl ?_
      repeat walk_at "rd"
      refine r_divI ⟨by decide, by decide⟩ ?_
      repeat walk_at "rd"
      refine r_modI (by omega) ?_
      repeat walk_at "rd"
      rw [Int.fmod_eq_emod_of_nonneg _ (by omega)]
      exact k _ _ (Int.emod_nonneg _ (by omega)) (Int.emod_lt_of_pos _ t0) (ExB.trans ExB.put ExB.put) ⟨x, u, z + 1, h2 _, x0, u0, u1, by omega, by omega⟩
abbrev s__law_pick : Stmt := top 16
theorem sc__law_pick : FnScope ["dice", "things"] ["dice", "things"] (defScope s__law_pick) := ⟨rfl, rfl, rfl, by decide +kernel, rfl, by decide +kernel, by decide +kernel⟩
def sp_pick (K : PySem.W.Frag) : Sp := fun vs H Q _ => ∃ (d a : Addr) (k : Sk) (xs : List V) (n : Nat), vs = [.ref d, .ref a] ∧ Dice n H d ∧ n < 1000000000000 ∧ a ≠ d ∧ k.at K H a xs ∧ 0 < xs.length ∧ xs.length < 1000000 ∧
  ∀ (i : Nat) v H', xs[i]? = some v → ExB d H H' → Dice (n + 1) H' d → Q v H'
theorem ok__law_pick (C : Cx0 K mg base) : Cal P w K mg base 2 "_law_pick" ["dice", "things"] (sp_pick K) := by
  have c__law_roll := ok__law_roll (P := P) (w := w) C
  refine C.cal 8 8 rfl rfl sc__law_pick (fun _ _ _ _ _ _ us hl => match us, hl with | [_, _], _ => rfl) (fun vs H Q E h => ?_) (fun f cdv A outer s H vs Q E hr h => ⟨_, PSs.nox
    (pss_one (ps_ret (pe_ix (k_ix (K := K) rfl) (pv 1) (pe_f c__law_roll hr (by decide) passL (pa_cons (pv 0) (pa_cons (pe_bi (k_len (K := K) rfl) (C.free 25) (by decide +kernel) (pa_cons (pv 1) pa_nil)) pa_nil))) (fun _ _ => rfl)))), ?_⟩)
  · obtain ⟨d, a, k, xs, n, rfl, _⟩ := h
    rfl
  · obtain ⟨d, a, k, xs, n, rfl, hd, hn, ne, ha, l0, l1, q⟩ := h
    repeat walk_at "rd"
    refine r_lenS ha ?_
    repeat walk_at "rd"
    refine ⟨d, _, n, rfl, hd, hn, by omega, by omega, fun r H' r0 r1 e h' => ?_⟩
    obtain ⟨i, rfl⟩ := Int.eq_ofNat_of_zero_le r0
    have hi : i < xs.length := by omega
    exact r_ixS (k.exb e ne ha) (List.getElem?_eq_getElem hi) (q i _ H' (List.getElem?_eq_getElem hi) e h')
abbrev s__law_dice : Stmt := top 14
theorem sc__law_dice : FnScope ["script", "spot", "own", "mixed", "cell"] ["script", "spot"] (defScope s__law_dice) := ⟨rfl, rfl, rfl, by decide +kernel, rfl, by decide +kernel, by decide +kernel⟩
def sp_dice (K : PySem.W.Frag) : Sp := fun vs H Q _ => ∃ (a : Addr) (ns : List Int) (spot : Int), vs = [.ref a, .int spot] ∧ SqL K H a (ns.map V.int) ∧ 0 ≤ spot ∧ spot < 1000 ∧ ns.length ≤ 1000 ∧ ∀ p H', Ex H H' → H p = none → Dice 0 H' p → Q (.ref p) H'
theorem ok__law_dice (C : Cx0 K mg base) : Cal P w K mg base 1 "_law_dice" ["script", "spot"] (sp_dice K) := by
  refine C.cal 6 6 rfl rfl sc__law_dice (fun _ _ _ _ _ _ us hl => match us, hl with | [_, _], _ => rfl) (fun vs H Q E h => ?_) (fun f cdv A outer s H vs Q E hr h => ⟨_, PSs.nox
    (pss_cons (ps_set (i := 2) sc__law_dice.nd rfl (Or.inl rfl) (pe_ifExp (pt_cmpR (k_lt (K := K) rfl hr) (pv 1) (pe_bi (k_len (K := K) rfl) (C.free 25) (by decide +kernel) (pa_cons (pv 0) pa_nil)) (nomark _)) (pe_ix (k_ix (K := K) rfl) (pv 0) (pv 1) (fun _ _ => rfl)) (pe_op (k_add (K := K) rfl) (pe_op (k_mul (K := K) rfl) pe_int (pv 1)) pe_int)))
      (pss_cons (ps_set (i := 3) sc__law_dice.nd rfl (Or.inl rfl) (pe_op (k_add (K := K) rfl) pe_int (pe_op (k_mul (K := K) rfl) pe_int (pv 1))))
      (pss_cons (ps_for PassesOwn.never rfl (k_seq (K := K) rfl (pe_op (k_add (K := K) rfl) (pe_slice (k_sl (K := K) rfl) (pv 0) po_none (po_some pe_int)) (pe_lst (pa_cons (pv 2) pa_nil)))) (pg_name (i := 4) sc__law_dice.nd rfl (Or.inl rfl))
      (pss_one (ps_set (i := 3) sc__law_dice.nd rfl (Or.inl rfl) (pe_op op_modN (pe_bt cr_int1 (C.free 20) (by decide +kernel) (pa_cons (pe_op (k_add (K := K) rfl) (pe_op (k_mul (K := K) rfl) (pv 3) pe_int) (pe_op op_modN (pe_bt cr_int1 (C.free 20) (by decide +kernel) (pa_cons (pv 4) pa_nil)) pe_int)) pa_nil)) pe_int))))
      (pss_one (ps_ret (pe_lst (pa_cons (pe_ifExp (PW.pt (pw_or (pt_cmpR (k_lt (K := K) rfl hr) (pv 2) pe_int (nomark _)) (pw_or1 (pt_cmpR (k_ge (K := K) rfl hr) (pv 2) (pe_op op_pow pe_int pe_int) (nomark _))))) (pe_bi cr_abs (C.free 26) (by decide +kernel) (pa_cons (pv 2) pa_nil)) pe_int) (pa_cons (pv 3) (pa_cons pe_int pa_nil))))))))), ?_⟩)
  · obtain ⟨a, ns, spot, rfl, _⟩ := h
    rfl
  · obtain ⟨a, ns, spot, rfl, ha, s0, s1, nl, k⟩ := h
    obtain ⟨sp, rfl⟩ := Int.eq_ofNat_of_zero_le s0
    repeat walk_at "rd"
    refine r_lenLI ha ?_
    repeat walk_at "rd"
    refine r_split (fun own => ?_) (fun c main => ?_) (fun c main => ?_)
    · repeat walk_at "rd"
      refine r_mulI (.inl (by omega)) ?_
      repeat walk_at "rd"
      refine r_slL ha fun p hp => ?_
      repeat walk_at "rd"
      obtain ⟨m, n, ec⟩ := cut_map (ns := ns) none (some 6)
      rw [ec]
      refine ⟨(show 1 ≤ sizeLine by decide), fun q hq => ?_⟩
      have hp1 : upd (upd H p (.lst (((ns.drop m).take n).map V.int))) q (.lst [.int own]) p = some (.lst (((ns.drop m).take n).map V.int)) := at_up hq upd_same
      refine r_catL (xs := ((ns.drop m).take n).map V.int) (ys := [.int own]) hp1 upd_same ?_ fun r hr2 => ?_
      · rw [List.length_map, List.length_take, List.length_drop, List.length_singleton]
        have : 1001 ≤ sizeLine := by decide
        omega
      have er : Ex H (upd (upd (upd H p (.lst (((ns.drop m).take n).map V.int))) q (.lst [.int own])) r (.lst (((ns.drop m).take n).map V.int ++ [.int own]))) := ((Ex.new hp).trans (Ex.new hq)).trans (Ex.new hr2)
      refine f_seq (k := .l) sqL_new (fun i σ H' => ∃ mixed : Int, ∃ x4, σ = [some (.ref a), some (.int (sp : Nat)), some (.int own), some (.int mixed), x4] ∧ 0 ≤ mixed ∧ mixed < 2147480009 ∧ Ex _ H') ⟨_, _, rfl, by omega, by omega, Ex.refl _⟩ (fun i σ H' _ p => sqL_ex p.choose_spec.choose_spec.2.2.2 sqL_new) ?_ ?_
      · rintro i x σ H' hx ⟨mixed, x4, rfl, m0, m1, e⟩
        have hint : ∃ j, x = .int j := by
          have := List.mem_of_getElem? hx
          rw [List.mem_append, List.mem_singleton, List.mem_map] at this
          rcases this with ⟨j, _, rfl⟩ | rfl
          · exact ⟨j, rfl⟩
          · exact ⟨_, rfl⟩
        obtain ⟨j, rfl⟩ := hint
        repeat walk_at "rd"
        refine r_mulI (.inr (by omega)) ?_
        repeat walk_at "rd"
        refine r_modI (by decide) ?_
        repeat walk_at "rd"
        refine r_modI (by decide) ?_
        repeat walk_at "rd"
        exact ⟨_, _, rfl, by rw [Int.fmod_eq_emod_of_nonneg _ (by decide)]; exact Int.emod_nonneg _ (by decide), by rw [Int.fmod_eq_emod_of_nonneg _ (by decide)]; exact Int.emod_lt_of_pos _ (by decide), e⟩
      · rintro σ H' ⟨mixed, x4, rfl, m0, m1, e⟩
        have fin : ∀ x : Int, 0 ≤ x → (3 ≤ sizeLine ∧ ∀ p, H' p = none → Q (.ref p) (upd H' p (.lst [.int x, .int mixed, .int 0]))) := fun x hx => ⟨(show 3 ≤ sizeLine by decide), fun p hp =>
          k p _ ((er.trans e).add hp) ((er.trans e).free hp) ⟨x, mixed, 0, upd_same, hx, m0, m1, by decide, by decide⟩⟩
        repeat walk_at "rd"
        by_cases c : own < 0
        · refine r_T (decide_eq_true c) ?_
          repeat walk_at "rd"
          refine r_abs ?_
          repeat walk_at "rd"
          exact fin _ (by split <;> omega)
        · refine r_F (decide_eq_false c) ?_
          repeat walk_at "rd"
          refine r_powI ⟨by decide, by decide, by decide⟩ ?_
          repeat walk_at "rd"
          refine r_D (fun c2 => ?_) (fun c2 => ?_)
          · repeat walk_at "rd"
            refine r_abs ?_
            repeat walk_at "rd"
            exact fin _ (by split <;> omega)
          · repeat walk_at "rd"
            exact fin 0 (by omega)
    · repeat walk_at "rd"
      have hs : ns[sp]? = some ns[sp] := List.getElem?_eq_getElem (by omega)
      exact r_ixLI ha hs (main ns[sp])
    · repeat walk_at "rd"
      refine r_mulI (.inl (by omega)) (r_addI ?_)
      exact main _

abbrev s__law_right : Stmt := top 19
theorem sc__law_right : FnScope ["dice", "many", "size", "shares", "asks", "at", "capacity", "found", "bad", "odd", "told"] ["dice"] (defScope s__law_right) := ⟨rfl, rfl, rfl, by decide +kernel, rfl, by decide +kernel, by decide +kernel⟩
def sp_right (Pa : Addr) : Sp := fun vs H Q _ => ∃ d, vs = [.ref d] ∧ Dice 0 H d ∧ LamX.Tabs [(Pa, Q0)] H ∧ ∀ H', EN d H H' → LamX.Tabs [(Pa, Q0)] H' → Q (.bl true) H'
theorem ok__law_right (C : Cx0 K mg base) (o_BadArgument : OBad P w K mg base) (R_law_refused : Ref K mg "_law_refused" (clsA K "BadArgument") "name" "") {Pa : Addr} (TB : LamX.TabB base mg (He.codeOf K ("_law_right", none)) Pa) : CalG P w K mg base 8 "_law_right" ["dice"] (sp_right Pa) := by
  have c__law_roll := ok__law_roll (P := P) (w := w) C
  have c__law_pick := ok__law_pick (P := P) (w := w) C
  have c__law_by_one := ok__law_by_one (P := P) (w := w) C
  have c_dealt := ok_dealt (P := P) (w := w) C o_BadArgument
  have ck_dealt := ok_dealtK (P := P) (w := w) C o_BadArgument
  refine C.calL 11 11 rfl rfl sc__law_right (fun _ _ _ _ _ _ us hl => match us, hl with | [_], _ => rfl) (fun vs H Q E h => ?_) (fun cdv A outer s H vs Q E hcode gd hr h => ⟨_, PSs.nox
    (pss_cons (ps_asg (pe_tup (pa_cons (pe_f c__law_pick hr (by decide) passL (pa_cons (pv 0) (pa_cons (pe_lst (pa_cons pe_int (pa_cons pe_int (pa_cons pe_int (pa_cons pe_int (pa_cons pe_int (pa_cons pe_int pa_nil))))))) pa_nil))) (pa_cons (pe_f c__law_pick hr (by decide) passL (pa_cons (pv 0) (pa_cons (pe_lst (pa_cons pe_int (pa_cons pe_int (pa_cons pe_int pa_nil)))) pa_nil))) pa_nil))) (k_two (K := K) (i := 1) (j := 2) rfl sc__law_right.nd rfl rfl (Or.inl rfl) (Or.inr rfl) (Or.inl rfl) (Or.inl rfl) rfl))
      (pss_cons (ps_asg (pe_tup (pa_cons (pe_bt (k_tuple (K := K) rfl) (C.free 16) (by decide +kernel) (pa_cons (pe_lc (own := [("at", 5)]) rfl sc__law_right.nd (pi_range1 rfl (C.free 17) (pa_cons (pv 1) pa_nil)) (blkOk_by (N := ["dice", "many", "size", "shares", "asks", "at", "capacity", "found", "bad", "odd", "told"]) (sc := defScope s__law_right) (by decide +kernel)) (fun _ _ _ _ _ => (pg_name (i := 5) sc__law_right.nd rfl (Or.inl rfl))) (fun _ _ _ _ _ => pts_nil) (fun _ _ _ _ _ => (pe_f c__law_roll hr (by decide) passL (pa_cons (pv 0) (pa_cons (pv 2) pa_nil))))) pa_nil)) (pa_cons (pe_bt (k_tuple (K := K) rfl) (C.free 16) (by decide +kernel) (pa_cons (pe_lc (own := [("at", 5)]) rfl sc__law_right.nd (pi_range1 rfl (C.free 17) (pa_cons (pv 1) pa_nil)) (blkOk_by (N := ["dice", "many", "size", "shares", "asks", "at", "capacity", "found", "bad", "odd", "told"]) (sc := defScope s__law_right) (by decide +kernel)) (fun _ _ _ _ _ => (pg_name (i := 5) sc__law_right.nd rfl (Or.inl rfl))) (fun _ _ _ _ _ => pts_nil) (fun _ _ _ _ _ => (pe_f c__law_roll hr (by decide) passL (pa_cons (pv 0) (pa_cons (pe_op (k_mul (K := K) rfl) pe_int (pv 2)) pa_nil))))) pa_nil)) pa_nil))) (k_two (K := K) (i := 3) (j := 4) rfl sc__law_right.nd rfl rfl (Or.inr rfl) (Or.inr rfl) (Or.inl rfl) (Or.inl rfl) rfl))
      (pss_cons (ps_set (i := 6) sc__law_right.nd rfl (Or.inr rfl) (pe_bi (cr_max2 rfl) (C.free 18) (by decide +kernel) (pa_cons (pe_bi (k_sum (K := K) rfl rfl) (C.free 21) (by decide +kernel) (pa_cons (pv 3) pa_nil)) (pa_cons (pe_op (k_add (K := K) rfl) (pe_bi (k_sum (K := K) rfl rfl) (C.free 21) (by decide +kernel) (pa_cons (pv 3) pa_nil)) (pe_f c__law_pick hr (by decide) passL (pa_cons (pv 0) (pa_cons (pe_lst (pa_cons pe_int (pa_cons pe_int (pa_cons pe_int (pa_cons (pv 2) (pa_cons (pe_bi (k_sum (K := K) rfl rfl) (C.free 21) (by decide +kernel) (pa_cons (pv 4) pa_nil)) (pa_cons (pe_op (k_mul (K := K) rfl) pe_int (pv 2)) pa_nil))))))) pa_nil)))) pa_nil))))
      (pss_cons (ps_set (i := 7) sc__law_right.nd rfl (Or.inr rfl) (pe_f c_dealt hr (by decide) passL (pa_cons (pv 6) (pa_cons (pv 3) (pa_cons (pv 4) pa_nil)))))
      (pss_cons (ps_if (PW.pt (pw_or (pt_cmpR (k_ne (K := K) rfl hr) (pe_bi (k_repr (K := K) rfl hr gd) (C.free 27) (by decide +kernel) (pa_cons (pv 7) pa_nil)) (pe_bi (k_repr (K := K) rfl hr gd) (C.free 27) (by decide +kernel) (pa_cons (pe_f c__law_by_one hr (by decide) passL (pa_cons (pv 6) (pa_cons (pv 3) (pa_cons (pv 4) pa_nil)))) pa_nil)) (nomark _)) (pw_or1 (pt_cmpR (k_ne (K := K) rfl hr) (pe_kw0 ck_dealt hr (by decide) passL (pk_cons (pv 4) (pk_cons (pv 3) (pk_cons (pv 6) pk_nil)))) (pv 7) (nomark _))))) (pss_one (ps_ret pe_bl)) pss_nil)
      (pss_cons (ps_if (PW.pt (pw_or (pt_cmpR (k_ne (K := K) rfl hr) (pe_bi (k_sum (K := K) rfl rfl) (C.free 21) (by decide +kernel) (pa_cons (pv 7) pa_nil)) (pe_bi (cr_min2 rfl) (C.free 22) (by decide +kernel) (pa_cons (pv 6) (pa_cons (pe_bi (k_sum (K := K) rfl rfl) (C.free 21) (by decide +kernel) (pa_cons (pv 4) pa_nil)) pa_nil))) (nomark _)) (pw_or1 (pt_cmpR (k_ne (K := K) rfl hr) (pe_lc (own := [("at", 5)]) rfl sc__law_right.nd (pi_range1 rfl (C.free 17) (pa_cons (pv 1) pa_nil)) (blkOk_by (N := ["dice", "many", "size", "shares", "asks", "at", "capacity", "found", "bad", "odd", "told"]) (sc := defScope s__law_right) (by decide +kernel)) (fun _ _ _ _ _ => (pg_name (i := 5) sc__law_right.nd rfl (Or.inl rfl))) (fun _ _ _ _ _ => pts_one (pt_not (pt_chain (k_le (K := K) rfl hr) (k_le (K := K) rfl hr) (pe_bi (cr_min2 rfl) (C.free 22) (by decide +kernel) (pa_cons (pe_ix (k_ix (K := K) rfl) (pv 3) (pv 5) (fun _ _ => rfl)) (pa_cons (pe_ix (k_ix (K := K) rfl) (pv 4) (pv 5) (fun _ _ => rfl)) pa_nil))) (pe_ix (k_ix (K := K) rfl) (pv 7) (pv 5) (fun _ _ => rfl)) (pe_ix (k_ix (K := K) rfl) (pv 4) (pv 5) (fun _ _ => rfl))))) (fun _ _ _ _ _ => pe_int)) (pe_lst pa_nil) (nomark _))))) (pss_one (ps_ret pe_bl)) pss_nil)
      (pss_cons (ps_asg (pe_tup (pa_cons (pe_f c__law_pick hr (by decide) passL (pa_cons (pv 0) (pa_cons (pe_lst (pa_cons (pe_un un_neg pe_int) (pa_cons pe_int (pa_cons pe_non (pa_cons pe_bl (pa_cons pe_str pa_nil)))))) pa_nil))) (pa_cons (pe_f c__law_pick hr (by decide) passL (pa_cons (pv 0) (pa_cons (pe_lst (pa_cons pe_non (pa_cons (pe_lst pa_nil) (pa_cons (pe_tup pa_nil) (pa_cons (pe_op (k_mul (K := K) rfl) (pe_tup (pa_cons pe_int pa_nil)) pe_int) (pa_cons (pe_tup (pa_cons (pe_un un_neg pe_int) pa_nil)) (pa_cons (pe_tup (pa_cons pe_bl pa_nil)) (pa_cons (pe_tup (pa_cons pe_int pa_nil)) (pa_cons (pe_bt (k_list (K := K) rfl) (C.free 29) (by decide +kernel) (pa_cons (pv 3) pa_nil)) (pa_cons pe_str pa_nil)))))))))) pa_nil))) pa_nil))) (k_two (K := K) (i := 8) (j := 9) rfl sc__law_right.nd rfl rfl (Or.inr rfl) (Or.inr rfl) (Or.inl rfl) (Or.inl rfl) rfl))
      (pss_cons (ps_set (i := 10) sc__law_right.nd rfl (Or.inl rfl) (pe_lst (pa_cons (pe_ref (k := 5) R_law_refused TB hcode rfl hr (by decide) (LamX.lamS_by (show LamX.lamSB (defScope s__law_right) _ = true by decide +kernel)) rfl (fun _ _ _ _ _ => rfl) (fun A outer s H E f c_ hr => (pe_f c_dealt hr (by decide) (passes_call (takes_of rfl rfl rfl rfl) fun _ _ _ _ h => h) (pa_cons (pv 8) (pa_cons (pv 9) (pa_cons (pv 9) pa_nil)))))) (pa_cons (pe_ref (k := 5) R_law_refused TB hcode rfl hr (by decide) (LamX.lamS_by (show LamX.lamSB (defScope s__law_right) _ = true by decide +kernel)) rfl (fun _ _ _ _ _ => rfl) (fun A outer s H E f c_ hr => (pe_f c_dealt hr (by decide) (passes_call (takes_of rfl rfl rfl rfl) fun _ _ _ _ h => h) (pa_cons (pv 6) (pa_cons (pv 9) (pa_cons (pv 9) pa_nil)))))) (pa_cons (pe_ref (k := 5) R_law_refused TB hcode rfl hr (by decide) (LamX.lamS_by (show LamX.lamSB (defScope s__law_right) _ = true by decide +kernel)) rfl (fun _ _ _ _ _ => rfl) (fun A outer s H E f c_ hr => (pe_f c_dealt hr (by decide) (passes_call (takes_of rfl rfl rfl rfl) fun _ _ _ _ h => h) (pa_cons (pv 6) (pa_cons (pv 3) (pa_cons (pv 9) pa_nil)))))) pa_nil)))))
      (pss_cons (ps_set (i := 10) sc__law_right.nd rfl (Or.inl rfl) (pe_op (k_add (K := K) rfl) (pv 10) (pe_lst (pa_cons (pe_ref (k := 5) R_law_refused TB hcode rfl hr (by decide) (LamX.lamS_by (show LamX.lamSB (defScope s__law_right) _ = true by decide +kernel)) rfl (fun _ _ _ _ _ => rfl) (fun A outer s H E f c_ hr => (pe_f c_dealt hr (by decide) (passes_call (takes_of rfl rfl rfl rfl) fun _ _ _ _ h => h) (pa_cons (pv 6) (pa_cons (pv 3) (pa_cons (pe_op (k_add (K := K) rfl) (pv 4) (pe_tup (pa_cons pe_int pa_nil))) pa_nil)))))) (pa_cons (pe_ref (k := 5) R_law_refused TB hcode rfl hr (by decide) (LamX.lamS_by (show LamX.lamSB (defScope s__law_right) _ = true by decide +kernel)) rfl (fun _ _ _ _ _ => rfl) (fun A outer s H E f c_ hr => (pe_f c_dealt hr (by decide) (passes_call (takes_of rfl rfl rfl rfl) fun _ _ _ _ h => h) (pa_cons (pe_bi (cr_max2 rfl) (C.free 18) (by decide +kernel) (pa_cons pe_int (pa_cons (pe_op op_sub (pe_bi (k_sum (K := K) rfl rfl) (C.free 21) (by decide +kernel) (pa_cons (pv 3) pa_nil)) pe_int) pa_nil))) (pa_cons (pv 3) (pa_cons (pv 4) pa_nil)))))) pa_nil)))))
      (pss_one (ps_ret (pe_cmpR (k_eq (K := K) rfl hr) (pv 10) (pe_lst (pa_cons pe_str (pa_cons pe_str (pa_cons pe_str (pa_cons pe_str (pa_cons (pe_ifExp (pt_cmpR (k_gt (K := K) rfl hr) (pe_bi (k_sum (K := K) rfl rfl) (C.free 21) (by decide +kernel) (pa_cons (pv 3) pa_nil)) pe_int (nomark _)) pe_str pe_str) pa_nil)))))) (nomark _))))))))))))), ?_⟩)
  · obtain ⟨d, rfl, _⟩ := h
    rfl
  · obtain ⟨d, rfl, hd, ht, k⟩ := h
    repeat walk_at "rd"
    refine ⟨(show 6 ≤ sizeLine by decide), fun p0 hp0 => ?_⟩
    repeat walk_at "rd"
    refine ⟨d, p0, .l, _, _, rfl, hd.fresh hp0, by decide, hd.ne hp0, sqL_new, (show 0 < 6 by decide), (show 6 < 1000000 by decide), fun i v H1 hv e1 d1 => ?_⟩
    have t1 := (hd.fresh hp0).tabs e1 (ht.ext (Ex.new (o := .lst [.int 1, .int 2, .int 3, .int 3, .int 5, .int 12]) hp0))
    have ex1 : EN d H H1 := (EN.e (Ex.new hp0)).tr (EN.b e1)
    obtain ⟨m, rfl, m0, m1⟩ : ∃ m : Nat, v = .int (m : Nat) ∧ 1 ≤ m ∧ m ≤ 12 := by
      match i, hv with
      | 0, hv => cases hv; exact ⟨1, rfl, by decide, by decide⟩
      | 1, hv => cases hv; exact ⟨2, rfl, by decide, by decide⟩
      | 2, hv => cases hv; exact ⟨3, rfl, by decide, by decide⟩
      | 3, hv => cases hv; exact ⟨3, rfl, by decide, by decide⟩
      | 4, hv => cases hv; exact ⟨5, rfl, by decide, by decide⟩
      | 5, hv => cases hv; exact ⟨12, rfl, by decide, by decide⟩
      | i + 6, hv => cases hv
    repeat walk_at "rd"
    refine ⟨(show 3 ≤ sizeLine by decide), fun p1 hp1 => ?_⟩
    repeat walk_at "rd"
    refine ⟨d, p1, .l, _, _, rfl, d1.fresh hp1, by decide, d1.ne hp1, sqL_new, (show 0 < 3 by decide), (show 3 < 1000000 by decide), fun i2 v2 H2 hv2 e2 d2 => ?_⟩
    have t2 := (d1.fresh hp1).tabs e2 (t1.ext (Ex.new (o := .lst [.int 3, .int 9, .int 30]) hp1))
    have ex2 : EN d H H2 := ex1.tr ((EN.e (Ex.new hp1)).tr (EN.b e2))
    obtain ⟨z, rfl, z0, z1⟩ : ∃ z : Int, v2 = .int z ∧ 3 ≤ z ∧ z ≤ 30 := by
      match i2, hv2 with
      | 0, hv => cases hv; exact ⟨3, rfl, by decide, by decide⟩
      | 1, hv => cases hv; exact ⟨9, rfl, by decide, by decide⟩
      | 2, hv => cases hv; exact ⟨30, rfl, by decide, by decide⟩
      | i + 3, hv => cases hv
    repeat walk_at "rd"
    refine ⟨(show 2 ≤ sizeLine by decide), fun pM hpM => ?_⟩
    refine g_two ?_
    replace d2 := d2.fresh (o := .tup [.int (m : Nat), .int z]) hpM
    replace t2 := t2.ext (Ex.new (o := .tup [.int (m : Nat), .int z]) hpM)
    replace ex2 : EN d H (upd H2 pM (.tup [.int (m : Nat), .int z])) := ex2.tr (EN.e (Ex.new hpM))
    generalize upd H2 pM (.tup [V.int (m : Nat), V.int z]) = H2b at *
    repeat walk_at "rd"
    refine n_1 (by omega) ?_
    rw [Int.toNat_natCast]
    refine c_dice (t := z) d2 (by omega) (fun _ => rfl) ?_ ?_
    · intro i H3 q N hi e3 d3 hq
      repeat walk_at "rd"
      exact ⟨d, z, _, rfl, d3, by omega, by omega, by omega, hq⟩
    intro L3 H3 ss hL3 ne3 e3 h3 len3 bd3 d3
    repeat walk_at "rd"
    refine r_tupL (sqL_of h3) fun pS hpS => ?_
    have d3' := d3.fresh (o := .tup (ss.map V.int)) hpS
    have t3 := (d2.tabs e3 t2).ext (Ex.new (o := .tup (ss.map V.int)) hpS)
    have nS : pS ≠ d := d3.ne hpS
    have ex3 : EN d H (upd H3 pS (.tup (ss.map V.int))) := ex2.tr ((EN.b e3).tr (EN.e (Ex.new hpS)))
    repeat walk_at "rd"
    refine n_1 (by omega) ?_
    rw [Int.toNat_natCast]
    refine c_dice (t := 2 * z) d3' (by omega) (fun _ => rfl) ?_ ?_
    · intro i H4 q N hi e4 d4 hq
      repeat walk_at "rd"
      refine r_mulI (.inl (by omega)) ?_
      repeat walk_at "rd"
      exact ⟨d, 2 * z, _, rfl, d4, by omega, by omega, by omega, hq⟩
    intro L4 H4 as hL4 ne4 e4 h4 len4 bd4 d4
    repeat walk_at "rd"
    refine r_tupL (sqL_of h4) fun pA hpA => ?_
    have d4' := d4.fresh (o := .tup (as.map V.int)) hpA
    have t4 := (d3'.tabs e4 t3).ext (Ex.new (o := .tup (as.map V.int)) hpA)
    have nA : pA ≠ d := d4.ne hpA
    have ex4 : EN d H (upd H4 pA (.tup (as.map V.int))) := ex3.tr ((EN.b e4).tr (EN.e (Ex.new hpA)))
    have hS : SqT K (upd H4 pA (.tup (as.map V.int))) pS (ss.map V.int) := sqT_ex (Ex.new hpA) (sqT_exb e4 nS sqT_new)
    have hA : SqT K (upd H4 pA (.tup (as.map V.int))) pA (as.map V.int) := sqT_new
    generalize upd H4 pA (.tup (as.map V.int)) = H5 at *
    repeat walk_at "rd"
    refine ⟨(show 2 ≤ sizeLine by decide), fun pT hpT => ?_⟩
    refine g_two ?_
    have d6 := d4'.fresh (o := .tup [.ref pS, .ref pA]) hpT
    have t6 := t4.ext (Ex.new (o := .tup [.ref pS, .ref pA]) hpT)
    have ex6 : EN d H (upd H5 pT (.tup [.ref pS, .ref pA])) := ex4.tr (EN.e (Ex.new hpT))
    have hS6 := sqT_ex (Ex.new (o := .tup [.ref pS, .ref pA]) hpT) hS
    have hA6 := sqT_ex (Ex.new (o := .tup [.ref pS, .ref pA]) hpT) hA
    generalize upd H5 pT (.tup [V.ref pS, V.ref pA]) = H6 at *
    have bS : ss.sum ≤ 29 * 12 := Int.le_trans (sum_le ss fun n hn => (by have := bd3 n hn; omega : n ≤ 29)) (by omega)
    have bA : as.sum ≤ 59 * 12 := Int.le_trans (sum_le as fun n hn => (by have := bd4 n hn; omega : n ≤ 59)) (by omega)
    have pS0 : 0 ≤ ss.sum := sum_nn fun n hn => (bd3 n hn).1
    have pA0 : 0 ≤ as.sum := sum_nn fun n hn => (bd4 n hn).1
    repeat walk_at "rd"
    refine r_sumT hS6 ?_
    repeat walk_at "rd"
    refine r_sumT hS6 ?_
    repeat walk_at "rd"
    refine r_sumT hA6 ?_
    repeat walk_at "rd"
    refine r_mulI (.inl (by omega)) ?_
    repeat walk_at "rd"
    refine ⟨(show 6 ≤ sizeLine by decide), fun p2 hp2 => ?_⟩
    repeat walk_at "rd"
    refine ⟨d, p2, .l, _, _, rfl, d6.fresh hp2, by omega, d6.ne hp2, sqL_new, (show 0 < 6 by decide), (show 6 < 1000000 by decide), fun i3 v3 H7 hv3 e7 d7 => ?_⟩
    have t7 := (d6.fresh hp2).tabs e7 (t6.ext (Ex.new (o := .lst [.int 0, .int 1, .int 2, .int z, .int as.sum, .int (3 * z)]) hp2))
    have up7 : EN d H6 H7 := (EN.e (Ex.new hp2)).tr (EN.b e7)
    have ex7 := ex6.tr up7
    have hS7 := sqT_en up7 nS hS6
    have hA7 := sqT_en up7 nA hA6
    obtain ⟨u, rfl, u0, u1⟩ : ∃ u : Int, v3 = .int u ∧ 0 ≤ u ∧ u ≤ 708 := by
      match i3, hv3 with
      | 0, hv => cases hv; exact ⟨_, rfl, by omega, by omega⟩
      | 1, hv => cases hv; exact ⟨_, rfl, by omega, by omega⟩
      | 2, hv => cases hv; exact ⟨_, rfl, by omega, by omega⟩
      | 3, hv => cases hv; exact ⟨_, rfl, by omega, by omega⟩
      | 4, hv => cases hv; exact ⟨_, rfl, by omega, by omega⟩
      | 5, hv => cases hv; exact ⟨_, rfl, by omega, by omega⟩
      | i + 6, hv => cases hv
    repeat walk_at "rd"
    obtain ⟨cap, ecap⟩ : ∃ cap, cap = max ss.sum (ss.sum + u) := ⟨_, rfl⟩
    rw [← ecap]
    have fit : Fit cap ss as := ⟨by omega, fun n hn => (bd3 n hn).1, fun n hn => ⟨(bd4 n hn).1, by have := bd4 n hn; omega⟩, by omega⟩
    have okS : okAm ss := ⟨by omega, by omega, fun n hn => ⟨(bd3 n hn).1, by have := bd3 n hn; omega⟩⟩
    have okB : okAm as := ⟨by omega, by omega, fun n hn => ⟨(bd4 n hn).1, by have := bd4 n hn; omega⟩⟩
    refine ⟨.int cap, .ref pS, .ref pA, "int", rfl, .int _, .inr ⟨cap, rfl, by omega, by omega, .inr ⟨pS, ss, rfl, hS7, okS, .inr ⟨by omega, .inr ⟨pA, as, rfl, hA7, okB, .inr ⟨by omega, fun H8 pF L e8 f8 lev hF => ?_⟩⟩⟩⟩⟩⟩
    have fair := fair_dealt (L := L) fit
    have fsum := dealt_sum fit lev
    have fshow := dealt_show (L := L) fit (by omega)
    have flen := dealt_len (L := L) fit
    have fat : ∀ (i : Nat) (s a v : Int), ss[i]? = some s → as[i]? = some a → (dealtOf cap L ss as)[i]? = some v → min s a ≤ v ∧ v ≤ a := fun i s a v h1 h2 h3 => by
      have := dealt_at h1 h2 h3
      omega
    generalize dealtOf cap L ss as = fs at *
    have hF : SqT K H8 pF (fs.map V.int) := sqT_of hF
    have hS8 := sqT_ex e8 hS7
    have hA8 := sqT_ex e8 hA7
    obtain ⟨w1, w2, w3, w4⟩ := show_T (ns := fs) (by omega) fshow
    repeat walk_at "rd"
    refine r_reprT hF w1 w2 w3 w4 ?_
    repeat walk_at "rd"
    refine ⟨pS, pA, ss, as, cap, rfl, hS8, hA8, fit, by omega, by omega, fun H9 pB hs e9 hB F9 s9 => ?_⟩
    obtain rfl : hs = fs := fair_one F9 fair (s9.trans fsum.symm)
    repeat walk_at "rd"
    refine r_reprT hB w1 w2 w3 w4 ?_
    repeat walk_at "rd"
    rw [decide_eq_true rfl]
    repeat walk_at "rd"
    have hS9 := sqT_ex e9 hS8
    have hA9 := sqT_ex e9 hA8
    refine ⟨rfl, .int cap, .ref pS, .ref pA, "int", rfl, .int _, .inr ⟨cap, rfl, by omega, by omega, .inr ⟨pS, ss, rfl, hS9, okS, .inr ⟨by omega, .inr ⟨pA, as, rfl, hA9, okB, .inr ⟨by omega, fun H10 pG L2 e10 f10 lev2 hG => ?_⟩⟩⟩⟩⟩⟩
    obtain eG : dealtOf cap L2 ss as = hs := fair_one (fair_dealt (L := L2) fit) fair ((dealt_sum fit lev2).trans fsum.symm)
    rw [eG] at hG
    have up810 : Ex H8 H10 := e9.trans e10
    have hS10 := sqT_ex up810 hS8
    have hA10 := sqT_ex up810 hA8
    have hF10 := sqT_ex up810 hF
    repeat walk_at "rd"
    refine r_neTT (ns := hs) (ms := hs) (sqT_of hG) hF10 ?_
    rw [decide_eq_true rfl]
    repeat walk_at "rd"
    refine r_sumT hF10 ?_
    repeat walk_at "rd"
    refine r_sumT hA10 ?_
    repeat walk_at "rd"
    rw [decide_eq_true fsum]
    repeat walk_at "rd"
    refine n_1 (by omega) ?_
    rw [Int.toNat_natCast]
    refine c_rngR (K := K) (fun _ => none) (by omega) (fun _ => rfl) ?_ ?_
    · intro j Hj q N hj ej hq hN
      have hjs : ss[j]? = some (ss[j]'(by omega)) := List.getElem?_eq_getElem _
      have hja : as[j]? = some (as[j]'(by omega)) := List.getElem?_eq_getElem _
      have hjf : hs[j]? = some (hs[j]'(by omega)) := List.getElem?_eq_getElem _
      have hb := fat j _ _ _ hjs hja hjf
      rw [Int.zero_add]
      repeat walk_at "rd"
      refine r_ixTI (sqT_ex ej hS10) hjs ?_
      repeat walk_at "rd"
      refine r_ixTI (sqT_ex ej hA10) hja ?_
      repeat walk_at "rd"
      refine r_ixTI (sqT_ex ej hF10) hjf ?_
      repeat walk_at "rd"
      rw [decide_eq_true hb.1]
      repeat walk_at "rd"
      refine r_ixTI (sqT_ex ej hA10) hja ?_
      repeat walk_at "rd"
      rw [decide_eq_true hb.2]
      repeat walk_at "rd"
      exact hN rfl _ (Ex.refl _)
    intro L11 H11 us hL11 e11 h11 rows
    have eus : us = [] := by
      have en : (List.range m).filterMap (fun _ => (none : Option (List Int))) = [] := List.filterMap_eq_nil_iff.mpr fun _ _ => rfl
      rw [en] at rows
      cases rows
      rfl
    subst eus
    repeat walk_at "rd"
    refine ⟨(show 0 ≤ sizeLine by decide), fun q11 hq11 => ?_⟩
    refine r_ne00 (sqL_up hq11 (sqL_of h11)) sqL_new ?_
    have e811 : Ex H8 (upd H11 q11 (.lst [])) := (up810.trans e11).trans (Ex.new hq11)
    have d11 := (d7.ex e8).ex e811
    have t11 := (t7.ext e8).ext e811
    have ex11 : EN d H (upd H11 q11 (.lst [])) := ex7.tr (EN.e (e8.trans e811))
    have hS11 := sqT_ex e811 hS8
    have hA11 := sqT_ex e811 hA8
    generalize upd H11 q11 (.lst []) = H12 at *
    repeat walk_at "rd"
    refine ⟨(show 5 ≤ sizeLine by decide), fun q12 hq12 => ?_⟩
    repeat walk_at "rd"
    refine ⟨d, q12, .l, _, _, rfl, d11.fresh hq12, by omega, d11.ne hq12, sqL_new, (show 0 < 5 by decide), (show 5 < 1000000 by decide), fun i4 bad H13 hv4 e13 d13 => ?_⟩
    have t13 := tabs_of d11 e13 (by walk_at "ex") t11
    have up13 : EN d H12 H13 := en_of e13 (by walk_at "ex")
    have ex13 := ex11.tr up13
    have hS13 := sqT_en up13 nS hS11
    have hA13 := sqT_en up13 nA hA11
    obtain ⟨badO, badT⟩ : inB 0 10000 bad = false ∧ ∀ H', ∃ T, IsTy K H' bad T := by
      match i4, hv4 with
      | 0, hv => cases hv; exact ⟨by decide, fun _ => ⟨_, .int _⟩⟩
      | 1, hv => cases hv; exact ⟨by decide, fun _ => ⟨_, .int _⟩⟩
      | 2, hv => cases hv; exact ⟨rfl, fun _ => ⟨_, .non⟩⟩
      | 3, hv => cases hv; exact ⟨rfl, fun _ => ⟨_, .bl _⟩⟩
      | 4, hv => cases hv; exact ⟨rfl, fun _ => ⟨_, .str _⟩⟩
      | i + 5, hv => cases hv
    clear e13 hv4 d11 t11 ex11 hS11 hA11
    repeat walk_at "rd"
    refine ⟨(show 0 ≤ sizeLine by decide), fun q1 hq1 => ?_⟩
    repeat walk_at "rd"
    refine ⟨(show 0 ≤ sizeLine by decide), fun q2 hq2 => ?_⟩
    repeat walk_at "rd"
    refine ⟨(show 1 ≤ sizeLine by decide), fun q3 hq3 => ?_⟩
    repeat walk_at "rd"
    refine r_mulT (xs := [.int 1]) sqT_new (by simp) (by decide) (by decide) (by decide) fun q4 hq4 => ?_
    repeat walk_at "rd"
    refine ⟨(show 1 ≤ sizeLine by decide), fun q5 hq5 => ?_⟩
    repeat walk_at "rd"
    refine ⟨(show 1 ≤ sizeLine by decide), fun q6 hq6 => ?_⟩
    repeat walk_at "rd"
    refine ⟨(show 1 ≤ sizeLine by decide), fun q7 hq7 => ?_⟩
    repeat walk_at "rd"
    refine r_listT (xs := ss.map V.int) (by walk_at "hl") fun q8 hq8 => ?_
    repeat walk_at "rd"
    refine ⟨(show 9 ≤ sizeLine by decide), fun q9 hq9 => ?_⟩
    repeat walk_at "rd"
    have n1 := d13.ne hq1
    have n2 := Dice.ne (d13.ex (by walk_at "ex")) hq2
    have n4 := Dice.ne (d13.ex (by walk_at "ex")) hq4
    have n5 := Dice.ne (d13.ex (by walk_at "ex")) hq5
    have n6 := Dice.ne (d13.ex (by walk_at "ex")) hq6
    have n7 := Dice.ne (d13.ex (by walk_at "ex")) hq7
    have n8 := Dice.ne (d13.ex (by walk_at "ex")) hq8
    refine ⟨d, q9, .l, _, _, rfl, d13.ex (by walk_at "ex"), by omega, Dice.ne (d13.ex (by walk_at "ex")) hq9, sqL_new, (show 0 < 9 by decide), (show 9 < 1000000 by decide), fun i5 odd H15 hv5 e15 d15 => ?_⟩
    have t15 := tabs_of d13 e15 (by walk_at "ex") t13
    have up15 : EN d H13 H15 := en_of e15 (by walk_at "ex")
    have odd15 : Odd d H15 odd := by
      refine odd_of e15 ?_
      match i5, hv5 with
      | 0, hv => cases hv; exact .inl rfl
      | 1, hv => cases hv; exact .inr (.inr (.inl ⟨q1, _, rfl, n1, by walk_at "hl"⟩))
      | 2, hv => cases hv; exact .inr (.inr (.inr ⟨q2, [], rfl, n2, by walk_at "hl", rfl, fun x hx => nomatch hx⟩))
      | 3, hv => cases hv; exact .inr (.inr (.inr ⟨q4, _, rfl, n4, by walk_at "hl", by decide, fun x hx => by
          obtain ⟨l, hl, hx⟩ := List.mem_flatten.mp hx
          rw [List.eq_of_mem_replicate hl] at hx
          exact .inl ⟨1, List.mem_singleton.mp hx⟩⟩))
      | 4, hv => cases hv; exact .inr (.inr (.inr ⟨q5, _, rfl, n5, by walk_at "hl", by decide, fun x hx => .inl ⟨_, List.mem_singleton.mp hx⟩⟩))
      | 5, hv => cases hv; exact .inr (.inr (.inr ⟨q6, _, rfl, n6, by walk_at "hl", by decide, fun x hx => .inr ⟨_, List.mem_singleton.mp hx⟩⟩))
      | 6, hv => cases hv; exact .inr (.inr (.inr ⟨q7, _, rfl, n7, by walk_at "hl", by decide, fun x hx => .inl ⟨_, List.mem_singleton.mp hx⟩⟩))
      | 7, hv => cases hv; exact .inr (.inr (.inl ⟨q8, _, rfl, n8, by walk_at "hl"⟩))
      | 8, hv => cases hv; exact .inr (.inl ⟨_, rfl⟩)
      | i + 9, hv => cases hv
    have ex15 := ex13.tr up15
    have hS15 := sqT_en up15 nS hS13
    have hA15 := sqT_en up15 nA hA13
    clear e15 hv5 d13 t13 ex13 hS13 hA13 n1 n2 n4 n5 n6 n7 n8 hq1 hq2 hq3 hq4 hq5 hq6 hq7 hq8 hq9
    repeat walk_at "rd"
    refine ⟨(show 2 ≤ sizeLine by decide), fun q16 hq16 => ?_⟩
    refine g_two ?_
    have t16 := t15.ext (Ex.new (o := .tup [bad, odd]) hq16)
    have up16 : EN d H15 (upd H15 q16 (.tup [bad, odd])) := EN.e (Ex.new hq16)
    have odd16 := odd15.en up16
    have ex16 := ex15.tr up16
    have hS16 := sqT_en up16 nS hS15
    have hA16 := sqT_en up16 nA hA15
    have d16 := d15.fresh (o := .tup [bad, odd]) hq16
    generalize upd H15 q16 (.tup [bad, odd]) = H16 at *
    repeat walk_at "rd"
    refine r_ref t16 fun H17 e17 t17 => ?_
    obtain ⟨T17, ty17⟩ := badT H17
    repeat walk_at "rd"
    refine ⟨bad, odd, odd, T17, rfl, ty17, .inl ⟨badO, fun dd H18 f18 e18 a18 => ⟨rfl, dd, _, rfl, a18, ?_⟩⟩⟩
    have u18 : EN d H16 H18 := (EN.n e17).tr (EN.e e18)
    repeat walk_at "rd"
    refine r_ref (t17.ext e18) fun H19 e19 t19 => ?_
    have u19 : EN d H16 H19 := u18.tr (EN.n e19)
    repeat walk_at "rd"
    refine ⟨.int cap, odd, odd, "int", rfl, .int _, .inr ⟨cap, rfl, by omega, by omega, .inl ⟨(odd16.en u19).am, fun dd H20 f20 e20 a20 => ⟨rfl, dd, _, rfl, a20, ?_⟩⟩⟩⟩
    have u20 : EN d H16 H20 := u19.tr (EN.e e20)
    repeat walk_at "rd"
    refine r_ref (t19.ext e20) fun H21 e21 t21 => ?_
    have u21 : EN d H16 H21 := u20.tr (EN.n e21)
    repeat walk_at "rd"
    refine ⟨.int cap, .ref pS, odd, "int", rfl, .int _, .inr ⟨cap, rfl, by omega, by omega, .inr ⟨pS, ss, rfl, sqT_en u21 nS hS16, okS, .inr ⟨by omega, .inl ⟨(odd16.en u21).am, fun dd H22 f22 e22 a22 => ⟨rfl, dd, _, rfl, a22, ?_⟩⟩⟩⟩⟩⟩
    repeat walk_at "rd"
    refine ⟨(show 3 ≤ sizeLine by decide), fun pA1 hA1 => ?_⟩
    have u23 : EN d H16 (upd H22 pA1 (.lst [.str "capacity", .str "shares", .str "asks"])) := (u21.tr (EN.e e22)).tr (EN.e (Ex.new hA1))
    have t23 := (t21.ext e22).ext (Ex.new (o := .lst [.str "capacity", .str "shares", .str "asks"]) hA1)
    have hL23 : upd H22 pA1 (.lst [.str "capacity", .str "shares", .str "asks"]) pA1 = some (.lst [.str "capacity", .str "shares", .str "asks"]) := upd_same
    have nL : pA1 ≠ d := fun e => by
      obtain ⟨_, _, _, q, _⟩ := d16
      rw [e] at hA1
      have := (u21.tr (EN.e e22))
      exact absurd hA1 (by
        have hx := Dice.keep q (e17.tr ((ExN.of e18).tr (e19.tr ((ExN.of e20).tr (e21.tr (ExN.of e22))))))
        rw [hx]; exact fun z => nomatch z)
    generalize upd H22 pA1 (.lst [.str "capacity", .str "shares", .str "asks"]) = H23 at *
    have hS23 := sqT_en u23 nS hS16
    have hA23 := sqT_en u23 nA hA16
    have ex23 := ex16.tr u23
    clear u18 u19 u20 u21 t17 t19 t21 e17 e18 e19 e20 e21 e22 odd16 hS16 hA16
    repeat walk_at "rd"
    refine r_ref t23 fun H24 e24 t24 => ?_
    repeat walk_at "rd"
    refine ⟨(show 1 ≤ sizeLine by decide), fun q24 hq24 => ?_⟩
    have hA24 := sqT_ex (Ex.new (o := .tup [.int 0]) hq24) (sqT_exn e24 hA23)
    refine r_catT (xs := as.map V.int) (ys := [.int 0]) hA24 sqT_new (by rw [List.length_map]; exact Nat.le_trans (show as.length + 1 ≤ 13 by omega) (by decide)) fun p25 H25 e25 h25 => ?_
    have x25 := e24.tr (ExN.of ((Ex.new (o := .tup [.int 0]) hq24).trans e25))
    refine sp_long (as := as) (by omega) (by omega) (sqT_exn x25 hS23) okS (by omega) okB (by omega) (by rw [List.map_append]; exact h25) fun dd H26 f26 e26 a26 => ⟨rfl, dd, _, rfl, a26, ?_⟩
    have x26 := x25.tr (ExN.of e26)
    have t26 := (((t24.ext (Ex.new (o := .tup [.int 0]) hq24)).ext e25).ext e26)
    repeat walk_at "rd"
    refine r_ref t26 fun H27 e27 t27 => ?_
    have x27 := x26.tr e27
    repeat walk_at "rd"
    refine r_sumT (sqT_exn x27 hS23) ?_
    repeat walk_at "rd"
    have fin : ∀ (H28 : Hp) (x : Str), ExN H23 H28 → LamX.Tabs [(Pa, Q0)] H28 → (x = "shares" ∨ x = "") → ∀ p, H28 p = none → ∀ p2, upd H28 p (.lst [.str "capacity", .str "shares", .str "asks", .str "asks", .str x]) p2 = none →
        rEqA K (.ref p) (.ref p2) (upd (upd H28 p (.lst [.str "capacity", .str "shares", .str "asks", .str "asks", .str x])) p2 (.lst [.str "capacity", .str "shares", .str "asks", .str "asks", .str x])) Q := fun H28 x x28 t28 ex p hp p2 hp2 => by
      refine r_eqSS (xs := ["capacity", "shares", "asks", "asks", x]) (ys := ["capacity", "shares", "asks", "asks", x]) (sqL_up hp2 sqL_new) sqL_new (by rcases ex with rfl | rfl <;> decide +kernel) (by rcases ex with rfl | rfl <;> decide +kernel) ?_
      rw [decide_eq_true rfl]
      exact k _ (ex23.tr ((EN.n x28).tr ((EN.e (Ex.new hp)).tr (EN.e (Ex.new hp2))))) ((t28.ext (Ex.new hp)).ext (Ex.new hp2))
    by_cases pos : 0 < ss.sum
    · have em : max 0 (ss.sum - 1) = ss.sum - 1 := by omega
      rw [em]
      refine ⟨.int (ss.sum - 1), .ref pS, .ref pA, "int", rfl, .int _, .inr ⟨ss.sum - 1, rfl, by omega, by omega, .inr ⟨pS, ss, rfl, sqT_exn x27 hS23, okS, .inl ⟨by omega, fun dd H28 f28 e28 a28 => ⟨rfl, dd, _, rfl, a28, ?_⟩⟩⟩⟩⟩
      have x28 := x27.tr (ExN.of e28)
      have t28 := t27.ext e28
      repeat walk_at "rd"
      refine ⟨(show 2 ≤ sizeLine by decide), fun q29 hq29 => ?_⟩
      refine r_catL (xs := [.str "capacity", .str "shares", .str "asks"]) (ys := [.str "asks", .str "shares"]) (at_up hq29 (Dice.keep hL23 x28)) upd_same (show 5 ≤ sizeLine by decide) fun p30 hp30 => ?_
      repeat walk_at "rd"
      refine r_sumT (sqT_ex (Ex.new hp30) (sqT_ex (Ex.new hq29) (sqT_exn x28 hS23))) ?_
      repeat walk_at "rd"
      refine r_T (decide_eq_true pos) ?_
      repeat walk_at "rd"
      refine ⟨(show 5 ≤ sizeLine by decide), fun p31 hp31 => ?_⟩
      exact fin _ "shares" (x28.tr (ExN.of (Ex.new hq29))) (t28.ext (Ex.new hq29)) (.inl rfl) p30 hp30 p31 hp31
    · have em : max 0 (ss.sum - 1) = 0 := by omega
      rw [em]
      refine ⟨.int 0, .ref pS, .ref pA, "int", rfl, .int _, .inr ⟨0, rfl, by omega, by omega, .inr ⟨pS, ss, rfl, sqT_exn x27 hS23, okS, .inr ⟨by omega, .inr ⟨pA, as, rfl, sqT_exn x27 hA23, okB, .inr ⟨by omega, fun H28 p28 L28 e28 f28 lev28 hp28 => ?_⟩⟩⟩⟩⟩⟩
      have x28 := x27.tr (ExN.of e28)
      have t28 := t27.ext e28
      repeat walk_at "rd"
      refine ⟨(show 2 ≤ sizeLine by decide), fun q29 hq29 => ?_⟩
      refine r_catL (xs := [.str "capacity", .str "shares", .str "asks"]) (ys := [.str "asks", .str ""]) (at_up hq29 (Dice.keep hL23 x28)) upd_same (show 5 ≤ sizeLine by decide) fun p30 hp30 => ?_
      repeat walk_at "rd"
      refine r_sumT (sqT_ex (Ex.new hp30) (sqT_ex (Ex.new hq29) (sqT_exn x28 hS23))) ?_
      repeat walk_at "rd"
      refine r_F (decide_eq_false pos) ?_
      repeat walk_at "rd"
      refine ⟨(show 5 ≤ sizeLine by decide), fun p31 hp31 => ?_⟩
      exact fin _ "" (x28.tr (ExN.of (Ex.new hq29))) (t28.ext (Ex.new hq29)) (.inr rfl) p30 hp30 p31 hp31
end
end K61

namespace K61
section
variable {P : Program} {w : World} {K : PySem.W.Frag} {mg : Str → Option Value} {base : Heap}
def fairB (gs hs as : List Int) : Bool := decide (gs.length = as.length) && (decide (hs.length = as.length) && (List.range as.length).all fun i => decide (gs.getD i 0 ≤ hs.getD i 0) && (decide (hs.getD i 0 ≤ as.getD i 0) && (List.range as.length).all fun j =>
  decide (gs.getD i 0 < hs.getD i 0 → hs.getD j 0 < as.getD j 0 → hs.getD i 0 - 1 < hs.getD j 0 ∨ (hs.getD i 0 - 1 = hs.getD j 0 ∧ i < j))))
theorem getD_of {l : List Int} {i : Nat} {x : Int} (h : l[i]? = some x) : l.getD i 0 = x := by
  rw [List.getD_eq_getElem?_getD, h]; rfl
theorem fairB_ok {gs hs as : List Int} (h : fairB gs hs as = true) : Fair gs hs as := by
  unfold fairB at h
  simp only [Bool.and_eq_true, decide_eq_true_eq, List.all_eq_true, List.mem_range] at h
  obtain ⟨h1, h2, h3⟩ := h
  refine ⟨h1, h2, fun i g h a e1 e2 e3 => ?_, fun i j g h h' a' e1 e2 e3 e4 => ?_⟩
  · have := h3 i (List.getElem?_eq_some_iff.mp e3).1
    rw [getD_of e1, getD_of e2, getD_of e3] at this
    exact ⟨this.1, this.2.1⟩
  · have li : i < as.length := by rw [← h1]; exact (List.getElem?_eq_some_iff.mp e1).1
    have := (h3 i li).2.2 j (List.getElem?_eq_some_iff.mp e4).1
    rw [getD_of e1, getD_of e2, getD_of e3, getD_of e4] at this
    exact this
def okAmB (ns : List Int) : Bool := decide (1 ≤ ns.length) && (decide (ns.length ≤ 12) && ns.all fun n => decide (0 ≤ n ∧ n ≤ 10000))
theorem okAmB_ok {ns : List Int} (h : okAmB ns = true) : okAm ns := by
  unfold okAmB at h
  simp only [Bool.and_eq_true, decide_eq_true_eq, List.all_eq_true] at h
  exact ⟨h.1, h.2.1, h.2.2⟩
theorem dealt_is {c : Int} {ss as rs : List Int} {a b : Addr} {H : Hp} {Q : VK} {E : XK} (ha : SqT K H a (ss.map V.int)) (hb : SqT K H b (as.map V.int)) (c0 : 0 ≤ c) (c1 : c ≤ 10000) (o1 : okAmB ss = true) (o2 : okAmB as = true) (hl : as.length = ss.length) (hs : ss.sum ≤ c) (F : fairB (gotOf ss as) rs as = true) (hr : rs.sum = min c as.sum)
    (q : ∀ p H', Ex H H' → SqT K H' p (rs.map V.int) → Q (.ref p) H') : sp_dealt K [.int c, .ref a, .ref b] H Q E := by
  have u1 := okAmB_ok o1
  have u2 := okAmB_ok o2
  have fit : Fit c ss as := ⟨hl.symm, fun n hn => (u1.2.2 n hn).1, u2.2.2, hs⟩
  refine ⟨_, _, _, "int", rfl, .int _, .inr ⟨c, rfl, c0, c1, .inr ⟨a, ss, rfl, ha, u1, .inr ⟨hs, .inr ⟨b, as, rfl, hb, u2, .inr ⟨hl, fun H8 p L e8 f8 lev hp => ?_⟩⟩⟩⟩⟩⟩
  have e := fair_one (fair_dealt (L := L) fit) (fairB_ok F) ((dealt_sum fit lev).trans hr.symm)
  rw [e] at hp
  exact q p H8 e8 (sqT_of hp)
abbrev s_law : Stmt := top 20
theorem sc_law : FnScope ["script", "spot"] ["script"] (defScope s_law) := ⟨rfl, rfl, rfl, by decide +kernel, rfl, by decide +kernel, by decide +kernel⟩
def sp_law (K : PySem.W.Frag) (Pa : Addr) : Sp := fun vs H Q _ => ∃ (a : Addr) (ns : List Int), vs = [.ref a] ∧ SqL K H a (ns.map V.int) ∧ ns.length ≤ 63 ∧ LamX.Tabs [(Pa, Q0)] H ∧ ∀ H', Q (.bl true) H'
theorem ok_law {f0 : Addr} {fd0 : FuncData} (F : FunD K "law" "law" (defArgs s_law) (defBody s_law) (defScope s_law) [] [] f0 fd0) (C : Cx0 K mg base) (o_BadArgument : OBad P w K mg base) {Pa : Addr} (TB : LamX.TabB base mg (He.codeOf K ("_law_right", none)) Pa) : FnG P w K mg base 9 f0 fd0 ["script"] (sp_law K Pa) := by
  have c__law_right := ok__law_right (P := P) (w := w) C o_BadArgument (ref_ok C o_BadArgument) TB
  have c__law_dice := ok__law_dice (P := P) (w := w) C
  have c_dealt := ok_dealt (P := P) (w := w) C o_BadArgument
  refine fnG_of F sc_law (fun vs H Q E h => ?_) (fun cdv A outer s H vs Q E gd hr h => ⟨_, PSs.nox
    (pss_cons (ps_for PassesOwn.never rfl (pi_range1 rfl (C.free 17) (pa_cons (pe_bi (cr_max2 rfl) (C.free 18) (by decide +kernel) (pa_cons pe_int (pa_cons (pe_bi (cr_min2 rfl) (C.free 22) (by decide +kernel) (pa_cons pe_int (pa_cons (pe_bi (k_len (K := K) rfl) (C.free 25) (by decide +kernel) (pa_cons (pv 0) pa_nil)) pa_nil))) pa_nil))) pa_nil)) (pg_name (i := 1) sc_law.nd rfl (Or.inl rfl))
      (pss_one (ps_if (pt_not (k_truth (K := K) rfl (pe_fG c__law_right gd hr (by decide) passL (pa_cons (pe_f c__law_dice hr (by first | decide | omega) passL (pa_cons (pv 0) (pa_cons (pv 1) pa_nil))) pa_nil)) (by intro _; rfl))) (pss_one (ps_ret pe_bl)) pss_nil)))
      (pss_cons (ps_if (PW.pt (pw_or (pt_cmpR (k_ne (K := K) rfl hr) (pe_f c_dealt hr (by first | decide | omega) passL (pa_cons pe_int (pa_cons (pe_tup (pa_cons pe_int (pa_cons pe_int pa_nil))) (pa_cons (pe_tup (pa_cons pe_int (pa_cons pe_int pa_nil))) pa_nil)))) (pe_tup (pa_cons pe_int (pa_cons pe_int pa_nil))) (nomark _)) (pw_or1 (pt_cmpR (k_ne (K := K) rfl hr) (pe_f c_dealt hr (by first | decide | omega) passL (pa_cons pe_int (pa_cons (pe_tup (pa_cons pe_int (pa_cons pe_int pa_nil))) (pa_cons (pe_tup (pa_cons pe_int (pa_cons pe_int pa_nil))) pa_nil)))) (pe_tup (pa_cons pe_int (pa_cons pe_int pa_nil))) (nomark _))))) (pss_one (ps_ret pe_bl)) pss_nil)
      (pss_one (ps_ret (pe_and (pe_cmpR (k_eq (K := K) rfl hr) (pe_f c_dealt hr (by first | decide | omega) passL (pa_cons pe_int (pa_cons (pe_tup (pa_cons pe_int pa_nil)) (pa_cons (pe_tup (pa_cons pe_int pa_nil)) pa_nil)))) (pe_tup (pa_cons pe_int pa_nil)) (nomark _)) (pe_one (pe_cmpR (k_eq (K := K) rfl hr) (pe_f c_dealt hr (by first | decide | omega) passL (pa_cons pe_int (pa_cons (pe_tup (pa_cons pe_int (pa_cons pe_int pa_nil))) (pa_cons (pe_tup (pa_cons pe_int (pa_cons pe_int pa_nil))) pa_nil)))) (pe_tup (pa_cons pe_int (pa_cons pe_int pa_nil))) (nomark _)))))))), ?_⟩)
  · obtain ⟨a, ns, rfl, _⟩ := h
    rfl
  · obtain ⟨a, ns, rfl, ha, hn, ht, k⟩ := h
    repeat walk_at "rd"
    refine r_lenLI ha ?_
    repeat walk_at "rd"
    obtain ⟨n, en⟩ : ∃ n : Nat, max 1 (min 6 (ns.length : Int)) = n := ⟨(max 1 (min 6 (ns.length : Int))).toNat, by omega⟩
    rw [en]
    have n4 : n ≤ 63 := by omega
    refine n_1 (by omega) ?_
    rw [Int.toNat_natCast]
    refine f_rng (fun i σ H' => ∃ x1 : Option V, σ = [some (.ref a), x1] ∧ SqL K H' a (ns.map V.int) ∧ LamX.Tabs [(Pa, Q0)] H') ⟨_, rfl, ha, ht⟩ ?_ ?_
    · rintro i σ H1 hi ⟨x1, rfl, h1, t1⟩
      rw [Int.zero_add]
      repeat walk_at "rd"
      refine ⟨a, ns, _, rfl, h1, by omega, by omega, by omega, fun d H2 e2 f2 d2 => ?_⟩
      refine ⟨d, rfl, d2, t1.ext e2, fun H3 e3 t3 => ?_⟩
      repeat walk_at "rd"
      exact ⟨_, rfl, sqL_fresh_en f2 e2 e3 h1, t3⟩
    · rintro σ H1 ⟨x1, rfl, h1, t1⟩
      repeat walk_at "rd"
      refine ⟨(show 2 ≤ sizeLine by decide), fun p1 hp1 => ?_⟩
      repeat walk_at "rd"
      refine ⟨(show 2 ≤ sizeLine by decide), fun p2 hp2 => ?_⟩
      refine dealt_is (ss := [0, 1]) (as := [10000, 10000]) (rs := [5000, 5000]) (sqT_up hp2 sqT_new) sqT_new (by decide) (by decide) (by decide) (by decide) rfl (by decide) (by decide) (by decide) fun p3 H3 e3 h3 => ?_
      repeat walk_at "rd"
      refine ⟨(show 2 ≤ sizeLine by decide), fun p hp => ?_⟩
      refine r_neTT (ns := [5000, 5000]) (ms := [5000, 5000]) (sqT_up hp h3) sqT_new ?_
      rw [decide_eq_true rfl]
      repeat walk_at "rd"
      refine ⟨(show 2 ≤ sizeLine by decide), fun p1 hp1 => ?_⟩
      repeat walk_at "rd"
      refine ⟨(show 2 ≤ sizeLine by decide), fun p2 hp2 => ?_⟩
      refine dealt_is (ss := [7, 1]) (as := [9, 9]) (rs := [7, 3]) (sqT_up hp2 sqT_new) sqT_new (by decide) (by decide) (by decide) (by decide) rfl (by decide) (by decide) (by decide) fun p3 H3 e3 h3 => ?_
      repeat walk_at "rd"
      refine ⟨(show 2 ≤ sizeLine by decide), fun p hp => ?_⟩
      refine r_neTT (ns := [7, 3]) (ms := [7, 3]) (sqT_up hp h3) sqT_new ?_
      rw [decide_eq_true rfl]
      repeat walk_at "rd"
      refine ⟨(show 1 ≤ sizeLine by decide), fun p1 hp1 => ?_⟩
      repeat walk_at "rd"
      refine ⟨(show 1 ≤ sizeLine by decide), fun p2 hp2 => ?_⟩
      refine dealt_is (ss := [0]) (as := [5]) (rs := [0]) (sqT_up hp2 sqT_new) sqT_new (by decide) (by decide) (by decide) (by decide) rfl (by decide) (by decide) (by decide) fun p3 H3 e3 h3 => ?_
      repeat walk_at "rd"
      refine ⟨(show 1 ≤ sizeLine by decide), fun p hp => ?_⟩
      refine r_eqTT (ns := [0]) (ms := [0]) (sqT_up hp h3) sqT_new ?_
      refine ⟨_, rfl, ?_⟩
      rw [decide_eq_true rfl]
      repeat walk_at "rd"
      refine ⟨(show 2 ≤ sizeLine by decide), fun p1 hp1 => ?_⟩
      repeat walk_at "rd"
      refine ⟨(show 2 ≤ sizeLine by decide), fun p2 hp2 => ?_⟩
      refine dealt_is (ss := [0, 0]) (as := [9, 9]) (rs := [3, 2]) (sqT_up hp2 sqT_new) sqT_new (by decide) (by decide) (by decide) (by decide) rfl (by decide) (by decide) (by decide) fun p3 H3 e3 h3 => ?_
      repeat walk_at "rd"
      refine ⟨(show 2 ≤ sizeLine by decide), fun p hp => ?_⟩
      refine r_eqTT (ns := [3, 2]) (ms := [3, 2]) (sqT_up hp h3) sqT_new ?_
      rw [decide_eq_true rfl]
      exact k _
end
section
variable {w : World} {h : Heap} {K : PySem.W.Frag} {mg : Str → Option Value} {base : Heap}
abbrev PP : Program := PySem.Challenge.pw_promisedpost_k61_whole_shares_dealt
abbrev iBad : IniD := ⟨"BadArgument", "name", defArgs (inn 2 0), defBody (inn 2 0), defScope (inn 2 0)⟩
theorem hex (K : PySem.W.Frag) (d : IniD) (e : ex K = true) (m : d ∈ ini) : iniB PP K d = true := by
  unfold ex at e
  exact List.all_eq_true.mp e d m
theorem own_bad (ci : SaysI fa fn [] tf ini ex w h K) (C : Cx0 K mg base) : OBad PP w K mg base :=
  own_of (d := iBad) (ci.iniF hex 0) C.kin C.glob ⟨rfl, rfl, rfl, by decide +kernel, rfl, rfl, rfl, rfl, by decide⟩ rfl rfl rfl (by decide) (fun _ => rfl) (fun _ => rfl) (fun _ => rfl) (fun _ _ _ _ _ _ _ us hl => match us, hl with | [_, _], _ => rfl)
theorem law_ok (ci : SaysI fa fn [] tf ini ex w h K) {f0 : Addr} {fd0 : FuncData} (F : FunD K "law" "law" (defArgs s_law) (defBody s_law) (defScope s_law) [] [] f0 fd0) (C : Cx0 K mg base) (TB : LamX.TabB base mg (He.cT K ("_law_right", none)).1 (He.cT K ("_law_right", none)).2) :
    FnG PP w K mg base 9 f0 fd0 ["script"] (sp_law K (He.cT K ("_law_right", none)).2) :=
  ok_law F C (own_bad ci C) TB
end
end K61

end

section
open PySem PySem.Spec PyProof.Rows PB
theorem K61.law_at {w : World} {h : Heap} {mg : Str → Option Value} {fa : Addr} (Y : K61.hk.says w h) (G : h.Ns mainGlobals mg) (hmg : mg ("law" : Str) = some (.ref fa)) : ∃ K : PySem.W.Frag, K.In h ∧ LawG PySem.Challenge.rw_promisedpost_k61_whole_shares_dealt w K 9 63 "script" mg fa h := by
  obtain ⟨K, KX, ci⟩ := Y
  have c : He.SaysD K61.fa K61.fn K := ci.x.t.d
  obtain ⟨fd, F⟩ := c.def_ 12 (d := K61.dd "law" 20) rfl
  have e := hmg.symm.trans (He.glo_ok KX G (c.fact 12 (f := .glo "law") rfl))
  cases e
  have b := L2.FunD.bindsA (ps := ["script"]) F fun _ _ _ _ _ _ us hl => match us, hl with | [_], _ => rfl
  have mem : ∀ p ∈ [He.cT K (("_law_right", none) : He.Defn)], p = He.cT K (("_law_right", none) : He.Defn) := fun p hp => List.mem_singleton.mp hp
  have mm : (("_law_right", none) : He.Defn) ∈ K61.tf := List.mem_cons_self
  refine ⟨K, KX, fd, [He.cT K (("_law_right", none) : He.Defn)], K61.sp_law K (He.cT K (("_law_right", none) : He.Defn)).2, (fun p hp => by rw [mem p hp]; exact ci.x.empty _ mm), (fun p hp => by rw [mem p hp]; exact ci.x.out _ mm), (fun p hp => by rw [mem p hp]; exact PySem.W.codeHd_of_K KX (ci.x.hd _ mm)), fun s u => b s [u] rfl, fun H a ns hl _ ht hS => ⟨a, ns, rfl, hS, hl, (fun p hp => ?_), fun _ => rfl⟩,
    fun base h1 h2 h3 => ?_⟩
  · rw [List.mem_singleton.mp hp]
    exact LamX.TabS.nil (ht _ List.mem_cons_self)
  · exact K61.law_ok ci F ⟨c, h1, h2⟩ (h3 _ List.mem_cons_self)
end
open PySem PySem.W PySem.Calls PyProof.Rows
theorem PySem.Challenge.cw_promisedpost_k61_whole_shares_dealt_holds : PySem.Challenge.rw_promisedpost_k61_whole_shares_dealt.Holds := by
  w_on; o_law
  refine HandSHeadRun.head_any (r := OpenLaw.row PySem.Challenge.rw_promisedpost_k61_whole_shares_dealt) (q := view (OpenLaw.row PySem.Challenge.rw_promisedpost_k61_whole_shares_dealt).prog [20]) (H := K61.hk) (ob := K61.ob) (M := 1000) (loose := K61.names) (d := HandSHeadRun.topDef (OpenLaw.row PySem.Challenge.rw_promisedpost_k61_whole_shares_dealt).prog 20) (kwd := []) K61.ob_eq
    (by kernel_rfl) (fun s => by kernel_rfl) K61.run (by kernel_rfl) (by kernel_rfl) (by kernel_rfl) (by rfl) (by first | assumption | decide +kernel) (by decide +kernel) ⟨rfl, rfl, rfl, rfl, rfl, by decide +kernel⟩ ?hw ?hc
  case hw => w_witness2
  case hc =>
    refine PB.walk_G (l := PySem.Challenge.rw_promisedpost_k61_whole_shares_dealt) (n := 63) (k := 9) (x := "script") rfl (by decide) (by kernel_rfl) ⟨rfl, by decide, by decide⟩ ?F
    intro w mg fa h Y G hmg0
    refine K61.law_at Y G ?_
    have e : (HandSHeadRun.topDef (OpenLaw.row PySem.Challenge.rw_promisedpost_k61_whole_shares_dealt).prog 20).name = ("law" : PySem.Str) := by kernel_rfl
    rw [← e]
    exact hmg0
