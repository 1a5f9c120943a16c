import PyProof.Rows.All
import Wide.All
import OpenK.AllK
import Wide.FinOn
import KE.KStateDown
import HandS.ForMost
import HandS.ForExc
import HandS.Words
import HandS.WordsExc
import HandS.Defaults
import HandS.Zip
import HandS.TupLe
import HandS.Deep
import HandS.Conv
import HandS.SortInts
import HandS.IsInst
import HandS.Flow
import HandS.Style
import HandS.Head0
import HandS.Head1
import HandS.Head2
import HandS.HeadHook4
import HandS.HeadWalk
import KE.DataCmp
import KE.GoesNew
import KE.KTupSum
import HandS.TupAny
import PyProof.TupleOfSeq
import KE.GoesMore
import KE.GoesEnum
import HandS.Walk
import KE.SortData
import Lean
import PySem.Challenge.RW_promisedpost_k62_whole_shares_are_fair
set_option Elab.async false
set_option linter.all false
set_option maxRecDepth 100000
set_option maxHeartbeats 0
/-! PB: readings in small steps (r_..), rules for any kind of operand, calls bundled. -/
namespace PB
open PySem PySem.Spec L2
open PyProof.Rows hiding St

/-! ### heaps -/
/-- all that stood stands -/
abbrev Ex (H H' : Hp) : Prop := ∀ a o, H a = some o → H' a = some o
theorem Ex.refl (H : Hp) : Ex H H := fun _ _ h => h
theorem Ex.trans {A B C : Hp} (a : Ex A B) (b : Ex B C) : Ex A C := fun x o h => b x o (a x o h)
theorem Ex.new {H : Hp} {p : Addr} {o : HO} (h : H p = none) : Ex H (upd H p o) := fun a u e => (upd_ne (ne_of_none e h)).trans e
theorem Ex.add {H H' : Hp} {p : Addr} {o : HO} (e : Ex H H') (h : H' p = none) : Ex H (upd H' p o) := e.trans (Ex.new h)
theorem Ex.free {H H' : Hp} (e : Ex H H') {p : Addr} (h : H' p = none) : H p = none := by
  cases q : H p with
  | none => rfl
  | some o =>
    have z := e p o q
    rw [h] at z
    cases z
/-- all that stood stands, but what stands at d -/
def ExB (d : Addr) (H H' : Hp) : Prop := ∀ a o, a ≠ d → H a = some o → H' a = some o
theorem ExB.refl (d : Addr) (H : Hp) : ExB d H H := fun _ _ _ h => h
theorem ExB.of {d : Addr} {H H' : Hp} (e : Ex H H') : ExB d H H' := fun a o _ h => e a o h
theorem ExB.trans {d : Addr} {A B C : Hp} (a : ExB d A B) (b : ExB d B C) : ExB d A C := fun x o n h => b x o n (a x o n h)
theorem ExB.put {d : Addr} {H : Hp} {o : HO} : ExB d H (upd H d o) := fun a u n e => (upd_ne n).trans e
theorem Ex.sqL {K : PySem.W.Frag} {H H' : Hp} {a : Addr} {xs : List V} (e : Ex H H') (h : SqL K H a xs) : SqL K H' a xs := Same.seq e h
theorem Ex.sqT {K : PySem.W.Frag} {H H' : Hp} {a : Addr} {xs : List V} (e : Ex H H') (h : SqT K H a xs) : SqT K H' a xs := by
  rcases h with (h | ⟨o, h⟩) | h
  · exact .inl (.inl (e _ _ h))
  · exact .inl (.inr ⟨o, e _ _ h⟩)
  · exact .inr h

/-! ### readings, step by step -/
section
variable {σ : St} {H : Hp} {Q : VK} {D : Ends} {ta tb te tc : TE} {tt tu : TT} {t u : TS} {x y v : V} {K : PySem.W.Frag}
theorem r_var {i : Nat} (h : σ[i]? = some (some v)) (q : Q v H) : tVar i σ H Q := ⟨v, h, q⟩
theorem r_c (q : Q v H) : tC v σ H Q := q
theorem r_op {r : R2} (h : ta σ H fun x H1 => tb σ H1 fun y H2 => r x y H2 Q) : tOp r ta tb σ H Q := h
theorem r_un {r : V → Hp → VK → Prop} (h : ta σ H fun x H1 => r x H1 Q) : tUn r ta σ H Q := h
theorem r_U {g : Int → V} {i : Int} (q : Q (g i) H) : rU g (.int i) H Q := ⟨i, rfl, q⟩
theorem r_I0 {g : Int → Int → V} {i j : Int} (q : Q (g i j) H) : rI0 g (.int i) (.int j) H Q := ⟨i, j, rfl, rfl, q⟩
theorem r_I {C : Int → Int → Prop} {g : Int → Int → V} {i j : Int} (c : C i j) (q : Q (g i j) H) : rI C g (.int i) (.int j) H Q := ⟨i, j, rfl, rfl, c, q⟩
theorem r_test {Q : Bool → Hp → Prop} (h : te σ H fun x H1 => ∃ k, x = .bl k ∧ Q k H1) : tTest te σ H Q := h
theorem r_B {Q : Bool → Hp → Prop} (h : te σ H fun x H1 => ∃ k, x = .bl k ∧ Q k H1) : tB te σ H Q := h
theorem r_bl {P : Bool → Prop} {b : Bool} (h : P b) : ∃ k, V.bl b = V.bl k ∧ P k := ⟨b, rfl, h⟩
theorem r_not {Q : Bool → Hp → Prop} (h : tt σ H fun c H1 => Q (!c) H1) : tNot tt σ H Q := h
theorem r_and {Q : Bool → Hp → Prop} (h : tt σ H fun c H1 => if c = true then tu σ H1 Q else Q false H1) : tAnd tt tu σ H Q := h
theorem r_or {Q : Bool → Hp → Prop} (h : tt σ H fun c H1 => if c = true then Q true H1 else tu σ H1 Q) : tOr tt tu σ H Q := h
theorem r_andV (h : ta σ H fun x H1 => ∃ c, x = .bl c ∧ if c = true then tb σ H1 Q else Q (.bl false) H1) : tAndV ta tb σ H Q := h
theorem r_orV (h : ta σ H fun x H1 => ∃ c, x = .bl c ∧ if c = true then Q (.bl true) H1 else tb σ H1 Q) : tOrV ta tb σ H Q := h
theorem r_notV (h : ta σ H fun x H1 => ∃ c, x = .bl c ∧ Q (.bl (!c)) H1) : tNotV ta σ H Q := h
theorem r_if (h : tt σ H fun c H1 => if c = true then ta σ H1 Q else tb σ H1 Q) : tIf tt ta tb σ H Q := h
theorem r_chain {r r' : R2} (h : ta σ H fun x H1 => tb σ H1 fun y H2 => r x y H2 fun z H3 => ∃ k, z = .bl k ∧ (if k = true then tc σ H3 fun w' H4 => r' y w' H4 Q else Q (.bl false) H3)) : tChain r r' ta tb tc σ H Q := h
theorem r_T {A B : Prop} {b : Bool} (e : b = true) (h : A) : if b = true then A else B := by
  rw [if_pos e]; exact h
theorem r_F {A B : Prop} {b : Bool} (e : b = false) (h : B) : if b = true then A else B := by
  rw [if_neg (by rw [e]; decide)]; exact h
theorem r_D {A B p : Prop} [Decidable p] (h1 : p → A) (h2 : ¬ p → B) : if decide p = true then A else B := by
  by_cases c : p
  · exact r_T (decide_eq_true c) (h1 c)
  · exact r_F (decide_eq_false c) (h2 c)
theorem r_ND {A B p : Prop} [Decidable p] (h1 : ¬ p → A) (h2 : p → B) : if (!decide p) = true then A else B := by
  by_cases c : p
  · exact r_F (by rw [decide_eq_true c]; rfl) (h2 c)
  · exact r_T (by rw [decide_eq_false c]; rfl) (h1 c)
theorem r_C {A B : Prop} {b : Bool} (h1 : b = true → A) (h2 : b = false → B) : if b = true then A else B := by
  cases b with
  | true => exact r_T rfl (h1 rfl)
  | false => exact r_F rfl (h2 rfl)
theorem r_truB {P : Bool → Prop} {b : Bool} (h : P b) : ∃ k, TruV K (.bl b) H k ∧ P k := ⟨b, rfl, h⟩
theorem r_eq (s : scal x y = true) (q : Q (.bl (decide (x = y))) H) : rEq x y H Q := ⟨s, q⟩
theorem r_ne (s : scal x y = true) (q : Q (.bl (!decide (x = y))) H) : rNe x y H Q := ⟨s, q⟩
/-! statements -/
theorem r_seq (h : t { D with nx := u D } σ H) : tSeq t u D σ H := h
theorem r_next (h : D.nx σ H) : tNext D σ H := h
theorem r_brk (h : D.bk σ H) : tBreak D σ H := h
theorem r_cont (h : D.ct σ H) : tCont D σ H := h
theorem r_ret (h : te σ H D.rt) : tRet te D σ H := h
theorem r_drop (h : te σ H fun _ H1 => D.nx σ H1) : tDrop te D σ H := h
theorem r_set {i : Nat} (h : te σ H fun v H1 => D.nx (σ.set i (some v)) H1) : tAsg te (gName i) D σ H := h
theorem r_asg {g : TG} (h : te σ H fun x H1 => g x σ H1 D.nx) : tAsg te g D σ H := h
theorem r_gname {i : Nat} {Q : St → Hp → Prop} (h : Q (σ.set i (some v)) H) : gName i v σ H Q := h
theorem r_gtup {n : Nat} {tg : TGs} {a : Addr} {xs : List V} {Q : St → Hp → Prop} (ha : SqT K H a xs) (hn : xs.length = n) (h : tg xs σ H Q) : gTup K n tg (.ref a) σ H Q := ⟨a, xs, rfl, ha, hn, h⟩
theorem r_gcons {g : TG} {tg : TGs} {vs : List V} {Q : St → Hp → Prop} (h : g v σ H fun σ' H' => tg vs σ' H' Q) : gCons g tg (v :: vs) σ H Q := ⟨v, vs, rfl, h⟩
theorem r_gnil {Q : St → Hp → Prop} (h : Q σ H) : gNil [] σ H Q := ⟨rfl, h⟩
theorem r_ifS (h : tt σ H fun b H1 => if b = true then t D σ H1 else u D σ H1) : tIfS tt t u D σ H := h
theorem r_aug {i : Nat} {ti : TIp} (h : σ[i]? = some (some x)) (q : te σ H fun y H1 => ti x y H1 fun z H2 => D.nx (σ.set i (some z)) H2) : tAug i te ti D σ H := ⟨x, h, q⟩
theorem r_ipI {f : Int → Int → Int} {i j : Int} (q : Q (.int (f i j)) H) : ipI f (.int i) (.int j) H Q := ⟨i, j, rfl, rfl, q⟩
/-! arguments, displays, calls -/
theorem r_nil {Q : List V → Hp → Prop} (q : Q [] H) : tNil σ H Q := q
theorem r_cons {tr : TA} {Q : List V → Hp → Prop} (h : ta σ H fun x H1 => tr σ H1 fun xs H2 => Q (x :: xs) H2) : tCons ta tr σ H Q := h
theorem r_tup {tr : TA} (h : tr σ H fun xs H1 => xs.length ≤ sizeLine ∧ ∀ p, H1 p = none → Q (.ref p) (upd H1 p (.tup xs))) : tTup tr σ H Q := h
theorem r_lst {tr : TA} (h : tr σ H fun xs H1 => xs.length ≤ sizeLine ∧ ∀ p, H1 p = none → Q (.ref p) (upd H1 p (.lst xs))) : tLst tr σ H Q := h
theorem r_call {sp : Sp} {E : XK} {tr : TA} (h : tr σ H fun vs H1 => sp vs H1 Q E) : tCall sp [] E tr σ H Q := by
  have e : (fun (vs : List V) (H1 : Hp) => sp (vs ++ []) H1 Q E) = fun vs H1 => sp vs H1 Q E := by
    funext vs H1
    rw [List.append_nil]
  show tr σ H (fun (vs : List V) (H1 : Hp) => sp (vs ++ []) H1 Q E)
  rw [e]
  exact h
theorem r_callB {r : List V → Hp → VK → Prop} {tr : TA} (h : tr σ H fun vs H1 => r vs H1 Q) : tCB r tr σ H Q := h
theorem r_fld {f : Str} (h : ta σ H fun x H1 => ∃ a C dx fs v, x = .ref a ∧ H1 a = some (.ins C dx fs) ∧ Cls K C ∧ NoAttr K C f ∧ fs.lookup f = some v ∧ Q v H1) : tFld K ta f σ H Q := h
end

/-! ### kinds of values -/
/-- the types that may be asked of -/
def tyNames : List String := ["NoneType", "bool", "int", "str", "list", "tuple", "dict"]
def IsTy (K : PySem.W.Frag) (H : Hp) (v : V) (T : String) : Prop := TyX K H v (.type T) ∧ T ∈ tyNames
section
variable {K : PySem.W.Frag} {H H' : Hp} {Q : VK} {v : V} {T : String} {a : Addr}
theorem IsTy.non : IsTy K H .non "NoneType" := ⟨.base .non, by decide⟩
theorem IsTy.bl (b : Bool) : IsTy K H (.bl b) "bool" := ⟨.base (.bl b), by decide⟩
theorem IsTy.int (i : Int) : IsTy K H (.int i) "int" := ⟨.base (.int i), by decide⟩
theorem IsTy.str (x : Str) : IsTy K H (.str x) "str" := ⟨.base (.str x), by decide⟩
theorem IsTy.lst {xs : List V} (h : H a = some (.lst xs)) : IsTy K H (.ref a) "list" := ⟨.base (.lst h), by decide⟩
theorem IsTy.tup {xs : List V} (h : H a = some (.tup xs)) : IsTy K H (.ref a) "tuple" := ⟨.base (.tup h), by decide⟩
theorem IsTy.dK {kvs : List (Key × V)} (h : H a = some (.dK kvs)) : IsTy K H (.ref a) "dict" := ⟨.base (.dK h), by decide⟩
theorem IsTy.sqT {xs : List V} (h : SqT K H a xs) : IsTy K H (.ref a) "tuple" := by
  rcases h with (h | ⟨o, h⟩) | ⟨o, its, n, h, c, _⟩
  · exact .tup h
  · exact ⟨.fTuple h, by decide⟩
  · exact ⟨.kTuple h c, by decide⟩
def isIntV : V → Bool
  | .int _ => true
  | _ => false
def isBlV : V → Bool
  | .bl _ => true
  | _ => false
def isStrV : V → Bool
  | .str _ => true
  | _ => false
theorem r_isi {c : String} {b : Bool} (ty : IsTy K H v T) (e : kitB T c = some b) (q : Q (.bl b) H) : rIsi K [v, .ty c] H Q :=
  ⟨v, .ty c, .type T, .type c, b, rfl, .ty c, ty.1, kit_ty e, q⟩
theorem IsTy.cases (h : IsTy K H v T) : (v = .non ∧ T = "NoneType") ∨ (∃ b, v = .bl b ∧ T = "bool") ∨ (∃ i, v = .int i ∧ T = "int") ∨ (∃ x, v = .str x ∧ T = "str") ∨ (∃ a, v = .ref a ∧ T ∈ ["list", "tuple", "dict"]) := by
  obtain ⟨h, m⟩ := h
  generalize ht : Value.type T = t at h
  cases h with
  | base b =>
    cases b with
    | non => cases ht; exact .inl ⟨rfl, rfl⟩
    | bl b => cases ht; exact .inr (.inl ⟨b, rfl, rfl⟩)
    | int i => cases ht; exact .inr (.inr (.inl ⟨i, rfl, rfl⟩))
    | str x => cases ht; exact .inr (.inr (.inr (.inl ⟨x, rfl, rfl⟩)))
    | flt x => cases ht; exact absurd m (by decide)
    | lst e => cases ht; exact .inr (.inr (.inr (.inr ⟨_, rfl, by decide⟩)))
    | frz e => cases ht; exact .inr (.inr (.inr (.inr ⟨_, rfl, by decide⟩)))
    | tup e => cases ht; exact .inr (.inr (.inr (.inr ⟨_, rfl, by decide⟩)))
    | dK e => cases ht; exact .inr (.inr (.inr (.inr ⟨_, rfl, by decide⟩)))
    | dT e => cases ht; exact .inr (.inr (.inr (.inr ⟨_, rfl, by decide⟩)))
    | ins => cases ht
  | byt b => cases ht; exact absurd m (by decide)
  | set e => cases ht; exact absurd m (by decide)
  | kList e c => cases ht; exact .inr (.inr (.inr (.inr ⟨_, rfl, by decide⟩)))
  | kTuple e c => cases ht; exact .inr (.inr (.inr (.inr ⟨_, rfl, by decide⟩)))
  | kDict e c => cases ht; exact .inr (.inr (.inr (.inr ⟨_, rfl, by decide⟩)))
  | fTuple e => cases ht; exact .inr (.inr (.inr (.inr ⟨_, rfl, by decide⟩)))
  | fDict e => cases ht; exact .inr (.inr (.inr (.inr ⟨_, rfl, by decide⟩)))
end

/-! ### a def, by its name -/
/-- the def of this name keeps this promise -/
def Cal (P : Program) (w : World) (K : PySem.W.Frag) (mg : Str → Option Value) (base : Heap) (k : Nat) (x : Str) (ps : List Str) (sp : Sp) : Prop :=
  ∃ f fd, mg x = some (.ref f) ∧ PySem.W.keepIn K (.ref f) = true ∧ FnOk P w K mg base (L2.CX P w) k f fd ps sp ∧ Binds K fd ps []
theorem pe_f {X : Cx} {k j : Nat} {x : Str} {ps : List Str} {sp : Sp} {E : XK} {p pos : Pos} {e : Expr} {es : List Expr} {t : TA} (c : Cal X.prog X.w X.K X.mg X.base k x ps sp) (hr : Room j X.A) (hk : k ≤ j) (hx : Passes (L2.CX X.prog X.w) X E) (ha : PA X (e :: es) t)
    (hg : Gl X x := by rfl) (hdb : (x == ("__debug__" : Str)) = false := by decide) (he : starEach (e :: es) X.env = (false, eval e X.env) :: starEach es X.env := by rfl) (hpl : (backTo pos (starEach es X.env)).any (·.1) = false := by rfl) :
    PE X (.Call (.Name x p) (e :: es) [] pos) (tCall sp [] E t) := by
  obtain ⟨f, fd, h1, h2, F, b⟩ := c
  exact pe_call F (hr.mono hk) hg h1 h2 b .nil hx ha hdb he hpl
/-- a built-in type by its name, as a value -/
theorem pe_ty {X : Cx} (n : String) {x : Str} {pos : Pos} (hm : X.mg x = none) (hv : bootBuiltins x = some (.type n) := by decide +kernel) (hg : Gl X x := by rfl) (hn : x ≠ "__name__" := by decide) (hd : (x == ("__debug__" : Str)) = false := by decide) : PE X (.Name x pos) (tC (.ty n)) :=
  pe_bltn hg hm hv rfl hn hd
/-- a module's int -/
theorem pe_gi {X : Cx} {x : Str} {i : Int} {pos : Pos} (hm : ∃ t, X.mg x = some (.int i t)) (hg : Gl X x := by rfl) (hd : (x == ("__debug__" : Str)) = false := by decide) : PE X (.Name x pos) (tC (.int i)) := by
  obtain ⟨t, h⟩ := hm
  exact pe_glob hg h ⟨t, rfl⟩ hd
/-- a built-in function called -/
theorem pe_bi {X : Cx} {x : Str} {id : String} {r : List V → Hp → VK → Prop} {p pos : Pos} {e : Expr} {es : List Expr} {t : TA} (hc : CallR X (.builtin id) r) (hm : X.mg x = none) (hv : bootBuiltins x = some (.builtin id)) (ha : PA X (e :: es) t) (hg : Gl X x := by rfl)
    (hn : x ≠ "__name__" := by decide) (hdb : (x == ("__debug__" : Str)) = false := by decide) (he : starEach (e :: es) X.env = (false, eval e X.env) :: starEach es X.env := by rfl) (hpl : (backTo pos (starEach es X.env)).any (·.1) = false := by rfl) :
    PE X (.Call (.Name x p) (e :: es) [] pos) (tCB r t) := pe_callB hc hg hm hv ha hn hdb he hpl
/-- a built-in class called -/
theorem pe_bt {X : Cx} {x : Str} {T : String} {r : List V → Hp → VK → Prop} {p pos : Pos} {e : Expr} {es : List Expr} {t : TA} (hc : CallR X (.type T) r) (hm : X.mg x = none) (hv : bootBuiltins x = some (.type T)) (ha : PA X (e :: es) t) (hg : Gl X x := by rfl)
    (hn : x ≠ "__name__" := by decide) (hdb : (x == ("__debug__" : Str)) = false := by decide) (he : starEach (e :: es) X.env = (false, eval e X.env) :: starEach es X.env := by rfl) (hpl : (backTo pos (starEach es X.env)).any (·.1) = false := by rfl) :
    PE X (.Call (.Name x p) (e :: es) [] pos) (tCB r t) := pe_callTy hc hg hm hv ha hn hdb he hpl
/-- what the top has left -/
structure Ct (fa : List He.Fa) (fn : List He.DefD) (K : PySem.W.Frag) (mg : Str → Option Value) (base : Heap) : Prop where
  says : He.SaysD fa fn K
  kin : K.In base
  glob : base.Ns mainGlobals mg
section
variable {P : Program} {w : World} {fa : List He.Fa} {fn : List He.DefD} {K : PySem.W.Frag} {mg : Str → Option Value} {base : Heap}
theorem Ct.free (C : Ct fa fn K mg base) (i : Nat) {x : Str} (h : fa[i]? = some (.free x) := by rfl) : mg x = none := He.free_ok C.kin C.glob (C.says.fact i h)
theorem Ct.int (C : Ct fa fn K mg base) (i : Nat) {x : Str} {n : Int} (h : fa[i]? = some (.int x n) := by rfl) : ∃ t, mg x = some (.int n t) := He.int_ok C.kin C.glob (C.says.fact i h)
theorem Ct.cal (C : Ct fa fn K mg base) (i j : Nat) {x : Str} {a : Arguments} {b : List Stmt} {sc : Scope} (hd : fn[i]? = some ⟨(x, none), x, x, a, b, sc, [], []⟩) (hj : fa[j]? = some (.glo x)) {N ps : List Str} {k : Nat} {sp : Sp} (S : FnScope N ps sc)
    (hb : ∀ (kV doc pm : Value) (an : Option Addr) (cdv ct : Value) (us : List Value), us.length = ps.length → bindArgs (PySem.W.fnOf x x a b sc .none kV doc pm an cdv ct) ⟨us, []⟩ = pure (ps.zip us))
    (len : ∀ vs H Q E, sp vs H Q E → vs.length = ps.length)
    (hbody : ∀ (f : Addr) (cdv : Value) (A : Around) (outer : List Env) (s : Shared) (H : Hp) (vs : List V) (Q : VK) (E : XK), Room k (A.deeper (envOfC x sc s.heap.objs.size f cdv)) → sp vs H Q E →
      ∃ t, PSs (cxOf (L2.CX P w) P w K mg base N x sc f cdv A outer s H E) b t ∧ t { nx := fun _ H' => Q .non H', rt := Q } (start N vs) H) : Cal P w K mg base (k + 1) x ps sp := by
  obtain ⟨fd, F⟩ := C.says.def_ i hd
  exact ⟨_, fd, He.glo_ok C.kin C.glob (C.says.fact j hj), F.kp, FunD.ok F S len fun cdv A outer s H vs Q E hr h => hbody _ cdv A outer s H vs Q E hr h, FunD.bindsN F hb⟩
end
end PB

/-! PR: more rules by values: any kind of operand, tuples where the layer has lists. -/
namespace PB
open PySem PySem.Spec L2
open PyProof.Rows hiding St
section
variable {X : Cx}
/-! ### comparisons -/
def rCmpD (K : PySem.W.Frag) (f : PyData → PyData → Bool) : R2 := fun x y H Q => ∃ d e, Dp K H x d ∧ Dp K H y e ∧ PySem.W.alike d e = true ∧ d ≠ .none ∧ min d.depth e.depth ≤ 60 ∧ Q (.bl (f d e)) H
theorem cmpD {op : CmpOp} {f : PyData → PyData → Bool} (hu : X.A.units + 64 < cLine)
    (rule : ∀ {s : Shared} {a b : Value} {da db : PyData} {as bs : List Addr} {Q : Value → Shared → Prop}, Reads s.heap a da as → Reads s.heap b db bs → PySem.W.alike da db = true → da ≠ .none → X.A.units + min da.depth db.depth < cLine → Q (.bool (f da db)) s → wpAny (model X.prog X.w) X.A (compareOp op a b) Q X.xe s) :
    OpR X (compareOp op) (rCmpD X.K f) := by
  intro pins s σ H x y v u Q I rx ry h
  obtain ⟨d, e, hd, he, al, nn, dp, q⟩ := h
  obtain ⟨as, r1⟩ := Dp.reads I d x v hd rx
  obtain ⟨bs, r2⟩ := Dp.reads I e y u he ry
  exact rule r1 r2 al nn (by omega) ⟨.bl _, H, I, rfl, q⟩
def rCmpA (K : PySem.W.Frag) (g : Int → Int → Bool) (f : PyData → PyData → Bool) : R2 := fun x y H Q => rI0 (fun i j => .bl (g i j)) x y H Q ∨ rCmpD K f x y H Q
theorem op_ltA' (hu : X.A.units + 64 < cLine) : OpR X (compareOp .Lt) (rCmpA X.K (fun i j => decide (i < j)) fun d e => PySem.W.dataLt d e) := OpR.or op_lt (cmpD hu PySem.W.lt_data)
theorem op_gtA' (hu : X.A.units + 64 < cLine) : OpR X (compareOp .Gt) (rCmpA X.K (fun i j => decide (j < i)) fun d e => PySem.W.dataLt e d) := OpR.or op_gt (cmpD hu PySem.W.gt_data)
theorem op_leA' (hu : X.A.units + 64 < cLine) : OpR X (compareOp .LtE) (rCmpA X.K (fun i j => decide (i ≤ j)) fun d e => !PySem.W.dataLt e d) := OpR.or op_le (cmpD hu PySem.W.le_data)
theorem op_geA' (hu : X.A.units + 64 < cLine) : OpR X (compareOp .GtE) (rCmpA X.K (fun i j => decide (j ≤ i)) fun d e => !PySem.W.dataLt d e) := OpR.or op_ge (cmpD hu PySem.W.ge_data)
/-- room for 64 units -/
theorem un64 {k : Nat} {A : Around} (hr : Room k A) : A.units + 64 < cLine := by
  have := hr.un
  omega
theorem op_ltA {k : Nat} (hr : Room k X.A) : OpR X (compareOp .Lt) (rCmpA X.K (fun i j => decide (i < j)) fun d e => PySem.W.dataLt d e) := op_ltA' (un64 hr)
theorem op_gtA {k : Nat} (hr : Room k X.A) : OpR X (compareOp .Gt) (rCmpA X.K (fun i j => decide (j < i)) fun d e => PySem.W.dataLt e d) := op_gtA' (un64 hr)
theorem op_leA {k : Nat} (hr : Room k X.A) : OpR X (compareOp .LtE) (rCmpA X.K (fun i j => decide (i ≤ j)) fun d e => !PySem.W.dataLt e d) := op_leA' (un64 hr)
theorem op_geA {k : Nat} (hr : Room k X.A) : OpR X (compareOp .GtE) (rCmpA X.K (fun i j => decide (j ≤ i)) fun d e => !PySem.W.dataLt d e) := op_geA' (un64 hr)
def rEqA (K : PySem.W.Frag) : R2 := fun x y H Q => rEq x y H Q ∨ rEqD K x y H Q
def rNeA (K : PySem.W.Frag) : R2 := fun x y H Q => rNe x y H Q ∨ rNeD K x y H Q
theorem op_eqA {k : Nat} (hr : Room k X.A) : OpR X (compareOp .Eq) (rEqA X.K) := OpR.or op_eq (op_eqD (un64 hr))
theorem op_neA {k : Nat} (hr : Room k X.A) : OpR X (compareOp .NotEq) (rNeA X.K) := OpR.or op_ne (op_neD (un64 hr))
def rInA (K : PySem.W.Frag) : R2 := fun x y H Q => rIn K false x y H Q ∨ rInD K x y H Q
def rNinA (K : PySem.W.Frag) : R2 := fun x y H Q => rIn K true x y H Q ∨ rNotInD K x y H Q
theorem op_inA {k : Nat} (hr : Room k X.A) : OpR X (compareOp .In) (rInA X.K) := OpR.or op_in_seq (op_inD (by have := hr.un; omega))
theorem op_ninA {k : Nat} (hr : Room k X.A) : OpR X (compareOp .NotIn) (rNinA X.K) := OpR.or op_notIn_seq (op_notInD (by have := hr.un; omega))

/-! ### sums, joins -/
def rAddA (K : PySem.W.Frag) : R2 := fun x y H Q => rI0 (fun i j => .int (i + j)) x y H Q ∨ rCat x y H Q ∨ rCatA K x y H Q ∨ ∃ i j, x = .str i ∧ y = .str j ∧ i.length + j.length ≤ sizeLine ∧ Q (.str (i ++ j)) H
theorem op_addA : OpR X (binaryOp .Add) (rAddA X.K) := OpR.or op_add (OpR.or op_cat (OpR.or op_catA op_add_str))
def rMulA : R2 := fun x y H Q => rI CMul (fun i j => .int (i * j)) x y H Q ∨ rRep x y H Q
theorem op_mulA : OpR X (binaryOp .Mult) rMulA := OpR.or op_mul op_rep

/-! ### built-in functions on lists and tuples -/
def rSumT (K : PySem.W.Frag) : List V → Hp → VK → Prop := fun vs H Q => ∃ (a : Addr) (ns : List Int), vs = [V.ref a] ∧ SqT K H a (ns.map V.int) ∧ Q (.int ns.sum) H
theorem cr_sumT (hc : X.calm = true) : CallR X (.builtin "sum") (rSumT X.K) := by
  intro pins s σ H vs us Q I r h
  obtain ⟨a, ns, rfl, ht, q⟩ := h
  obtain ⟨its, rv, ⟨o, e, c, n, d⟩, _⟩ := I.tuple ht
  rw [Vals.ref1 r]
  have hi := rv.ints
  obtain ⟨xs, ex⟩ := hi.allInts.items
  have hn : numsOf (intItems xs).toList = ns := by rw [← ex]; exact hi.numsOf
  rw [nums_intItems] at hn
  have hT : s.heap.IsTuple a (intItems xs) := by rw [← ex]; exact ⟨o, e, c, n, d⟩
  refine PySem.W.ktm_sumG (I.ok.hd hc) hT fun h' tk t' hk => ?_
  rw [preSum_eq, List.take_of_length_le (by simp), hn]
  exact ⟨.int ns.sum, H, I.kept hk, ⟨t', rfl⟩, q⟩
def rSumA (K : PySem.W.Frag) : List V → Hp → VK → Prop := fun vs H Q => rSum K vs H Q ∨ rSumT K vs H Q
theorem cr_sumA (hc : X.calm = true) : CallR X (.builtin "sum") (rSumA X.K) := CallR.or (cr_sum hc) (cr_sumT hc)
def rSortedTI (K : PySem.W.Frag) : List V → Hp → VK → Prop := fun vs H Q => ∃ (a : Addr) (ns : List Int), vs = [V.ref a] ∧ SqT K H a (ns.map V.int) ∧
  ∀ (ns' : List Int) (p : Addr), ns'.Perm ns → ns'.Pairwise (· ≤ ·) → H p = none → Q (.ref p) (upd H p (.lst (ns'.map V.int)))
theorem cr_sortedTI : CallR X (.builtin "sorted") (rSortedTI X.K) := by
  intro pins s σ H vs us Q I r h
  obtain ⟨a, ns, rfl, ht, q⟩ := h
  obtain ⟨its, rv, ⟨o, e, c, n, d⟩, hz⟩ := I.tuple ht
  have hlen := rv.length
  rw [Vals.ref1 r]
  have hi := rv.ints
  refine Calls.call_function_entry PyProof.Rows.kind_sorted PyProof.Rows.plain_sorted PyProof.Rows.entry_sorted (PyProof.Rows.args_sorted1 _) ?_
  unfold Builtin.«sorted»
  refine wpAny_bind (wpAny_pure ?_)
  refine wpAny_bind (wpAny_collect_seq a (.inr rfl) e c d (fun h1 k1 => ?_) (by rw [List.size_toArray, ← hlen]; exact hz))
  refine wpAny_bind (wpAny_newList ?_ (by show its.length ≤ sizeLine; rw [← hlen]; exact hz))
  have e1 : (h1.push { cls := .type "list", data := .seq its.toArray }).get? h1.objs.size = some (PyProof.Rows.seqObj "list" its.toArray 0) := Heap.get?_push_size _ rfl
  refine wpAny_bind (wpAny_holding (wpAny_call_entry PyProof.Rows.slot_list_sort ⟨_, e1, rfl⟩ PyProof.Rows.entry_list_sort
    (SrtO.list_sort_ord SrtO.swo_int e1 (by rw [← hlen]; exact hz) (fun h2 => SrtO.ints_sortable hi h2) fun out g1 g2 => ⟨_, rfl, ?_⟩) (PyProof.Rows.args_list_sort _)))
  obtain ⟨k3, k4, k5⟩ := SrtO.ints_out hi g1 g2
  obtain ⟨ep, he⟩ := PyProof.Rows.sortedHeap_at (vs := its) (out := out.toArray) e1
  have I1 : Inv X pins σ H { s with heap := h1 } := I.kept (t' := s.toks) k1
  have old : ∀ b u, h1.get? b = some u → (PyProof.Rows.sortedHeap (h1.push { cls := .type "list", data := .seq its.toArray }) h1.objs.size its out.toArray).get? b = some u := fun b u eb => by
    have lt := Heap.lt_size eb
    rw [PyProof.Rows.sortedHeap_old (Nat.ne_of_lt lt) (by rw [Heap.size_push]; exact Nat.lt_succ_of_lt lt)]
    exact Heap.get?_push_of_some _ eb
  have hl2 : ((out.map SrtO.iv).map V.int).length ≤ sizeLine := by
    rw [List.length_map, k4.length_eq]
    rw [List.length_map] at hz
    exact hz
  exact wpAny_pure ⟨_, rfl, ⟨.ref _, upd H h1.objs.size (.lst ((out.map SrtO.iv).map V.int)), I1.laid (t' := s.toks) old (Nat.le_refl _) ⟨hl2, out, ep, vals_of_ints k3, he⟩, rfl, q _ _ k4 k5 (I1.hok.fresh (Nat.le_refl _))⟩⟩
/-! ### targets of two, of three names -/
theorem pg_two {i j kk : Nat} {x y : Str} {px py pos : Pos} (hc : X.calm = true) (hN : X.N.Nodup) (hi : X.N[i]? = some x) (hj : X.N[j]? = some y) (lx : Loc X.env.scope x) (ly : Loc X.env.scope y)
    (fx : X.fn x = true ∨ X.env.scope.names.lookup x = some .local) (fy : X.fn y = true ∨ X.env.scope.names.lookup y = some .local) : PG X (.Tuple [.Name x px, .Name y py] kk pos) (gTup X.K 2 (gCons (gName i) (gCons (gName j) gNil))) :=
  pg_tup hc (pgs_cons (pg_name hN hi lx fx) (pgs_cons (pg_name hN hj ly fy) pgs_nil))
theorem pg_three {i j l kk : Nat} {x y z : Str} {px py pz pos : Pos} (hc : X.calm = true) (hN : X.N.Nodup) (hi : X.N[i]? = some x) (hj : X.N[j]? = some y) (hl : X.N[l]? = some z) (lx : Loc X.env.scope x) (ly : Loc X.env.scope y) (lz : Loc X.env.scope z)
    (fx : X.fn x = true ∨ X.env.scope.names.lookup x = some .local) (fy : X.fn y = true ∨ X.env.scope.names.lookup y = some .local) (fz : X.fn z = true ∨ X.env.scope.names.lookup z = some .local) : PG X (.Tuple [.Name x px, .Name y py, .Name z pz] kk pos) (gTup X.K 3 (gCons (gName i) (gCons (gName j) (gCons (gName l) gNil)))) :=
  pg_tup hc (pgs_cons (pg_name hN hi lx fx) (pgs_cons (pg_name hN hj ly fy) (pgs_cons (pg_name hN hl lz fz) pgs_nil)))
/-! ### built-in calls under names of their own -/
def rLenA (K : PySem.W.Frag) : List V → Hp → VK → Prop := fun xs H Q => ∃ x n, xs = [x] ∧ LenV K x H n ∧ Q (.int n) H
theorem cr_len : CallR X (.builtin "len") (rLenA X.K) := call_len
def rMax2A : List V → Hp → VK → Prop := fun xs H Q => ∃ i j, xs = [.int i, .int j] ∧ Q (.int (if j > i then j else i)) H
theorem cr_max2 (hc : X.calm = true) : CallR X (.builtin "max") rMax2A := call_max2 hc
def rMin2A : List V → Hp → VK → Prop := fun xs H Q => ∃ i j, xs = [.int i, .int j] ∧ Q (.int (if j < i then j else i)) H
theorem cr_min2 (hc : X.calm = true) : CallR X (.builtin "min") rMin2A := call_min2 hc
def rAbsA : List V → Hp → VK → Prop := fun xs H Q => ∃ i, xs = [.int i] ∧ Q (.int (if i < 0 then -i else i)) H
theorem cr_abs : CallR X (.builtin "abs") rAbsA := call_abs
def rInt1A : List V → Hp → VK → Prop := fun xs H Q => (∃ i, xs = [.int i] ∧ Q (.int i) H) ∨ ∃ k, xs = [.bl k] ∧ Q (.int (if k then 1 else 0)) H
theorem cr_int1 : CallR X (.type "int") rInt1A := call_int1
def rTupA (K : PySem.W.Frag) : List V → Hp → VK → Prop := fun xs H Q => ∃ p ys, xs = [.ref p] ∧ ((SqL K H p ys ∧ ∀ l, H l = none → Q (.ref l) (upd H l (.tup ys))) ∨ (SqT K H p ys ∧ Q (.ref p) H))
theorem cr_tuple : CallR X (.type "tuple") (rTupA X.K) := call_tuple_of
def rListA (K : PySem.W.Frag) : List V → Hp → VK → Prop := fun xs H Q => ∃ p ys, xs = [.ref p] ∧ (SqL K H p ys ∨ SqT K H p ys) ∧ ∀ l, H l = none → Q (.ref l) (upd H l (.lst ys))
theorem cr_list : CallR X (.type "list") (rListA X.K) := call_list_of
/-! ### items and cuts -/
def rIxA (K : PySem.W.Frag) : R2 := fun x y H Q => rIxL K x y H Q ∨ rIxT K x y H Q ∨ rIxS x y H Q
theorem ix_A : IxR X (rIxA X.K) := IxR.or ix_list (IxR.or ix_tup ix_str)
def rSortedA (K : PySem.W.Frag) : List V → Hp → VK → Prop := fun vs H Q => rSortedI K vs H Q ∨ rSortedTI K vs H Q
theorem cr_sortedA : CallR X (.builtin "sorted") (rSortedA X.K) := CallR.or cr_sortedI cr_sortedTI
def rSlcA (K : PySem.W.Frag) : V → Option Int → Option Int → Hp → VK → Prop := fun x lo hi H Q => rSlL K x lo hi H Q ∨ rSlA K x lo hi H Q ∨ rSlS x lo hi H Q
theorem sl_A : SlR X (rSlcA X.K) := SlR.or sl_list (SlR.or sl_tupA sl_str)
/-! ### what a for walks -/
/-- a list or a tuple -/
def iSeq (K : PySem.W.Frag) (tl : TE) : TI := fun σ H R => tl σ H fun x H1 => ∃ a xs, x = .ref a ∧ ((SqL K H1 a xs ∧ R (Itl K a) H1) ∨ (SqT K H1 a xs ∧ R (Itt K a) H1))
theorem pi_seq {tg l : Expr} {tl : TE} (hl : PE X l tl) : PI X tg l (iSeq X.K tl) := by
  refine ⟨fun pins s σ H R I h => ?_⟩
  refine thn (hl.run pins s σ H _ I h) fun v s1 ⟨x, H1, I1, r1, a, xs, e, q1⟩ => ?_
  subst e
  obtain rfl : v = Value.ref a := r1
  rcases q1 with ⟨hq, q⟩ | ⟨hq, q⟩
  · obtain ⟨its, rv, p, hz⟩ := I1.list hq
    refine wpAny_pyIter_list p.isList ?_
    refine ⟨s1.heap.objs.size, [s1.heap.objs.size], _, _, H1, rfl, I1.kept (t' := s1.toks) fun b o e => Heap.get?_push_of_some _ e, turn_list a _, ⟨_, Heap.get?_push_size _ rfl, rfl, rfl⟩, fun b hb => ?_, q⟩
    obtain rfl := List.mem_singleton.mp hb
    exact I1.fpOk (Nat.le_refl _) (I1.hok.fresh (Nat.le_refl _))
  · obtain ⟨its, rv, p, hz⟩ := I1.tuple hq
    refine wpAny_pyIter_tuple (show s1.heap.IsTuple a its.toArray from p) ?_
    refine ⟨s1.heap.objs.size, [s1.heap.objs.size], _, _, H1, rfl, I1.kept (t' := s1.toks) fun b o e => Heap.get?_push_of_some _ e, turn_tuple a _, ⟨_, Heap.get?_push_size _ rfl, rfl, rfl⟩, fun b hb => ?_, q⟩
    obtain rfl := List.mem_singleton.mp hb
    exact I1.fpOk (Nat.le_refl _) (I1.hok.fresh (Nat.le_refl _))
end
end PB

/-! PZ: zip and enumerate over lists and tuples in any mix. -/
namespace PB
open PySem PySem.Spec L2
open PyProof.Rows hiding St
/-- a list, a tuple -/
inductive Sk where
  | l | t
def Sk.at : Sk → PySem.W.Frag → Hp → Addr → List V → Prop
  | .l, K, H, a, xs => SqL K H a xs
  | .t, K, H, a, xs => SqT K H a xs
def Sk.iter : Sk → Heap → Addr → Addr → Nat → Prop
  | .l, h, it, a, i => h.IsListIter it a i
  | .t, h, it, a, i => h.IsTupleIter it a i
def Sk.its : Sk → Heap → Addr → Array Value → Prop
  | .l, h, a, vs => h.IsList a vs
  | .t, h, a, vs => h.IsTuple a vs
def Sk.obj : Sk → Addr → Obj
  | .l, a => { cls := .type "list_iterator", data := .fields #[.ref a, .int 0 0] }
  | .t, a => { cls := .type "tuple_iterator", data := .fields #[.ref a, .int 0 0] }
theorem Sk.draws (k : Sk) {prog : Program} {w : World} {A : Around} (hh : A.handled = none) (it a : Addr) (hne : a ≠ it) (vs : Array Value) :
    Draws prog w A it [it, a] vs.size (fun i v => vs[i]? = some v) (fun i h => k.iter h it a i ∧ k.its h a vs) := by
  cases k with
  | l => exact Draws.list hh it a hne vs
  | t => exact Draws.tuple hh it a hne vs
theorem Sk.begins (k : Sk) (a : Addr) (vs : Array Value) : Begins (.ref a) (k.obj a) fun h => k.its h a vs := by
  cases k with
  | l => exact begins_list a vs
  | t => exact begins_tuple a vs
theorem Sk.start (k : Sk) {h : Heap} {it a : Addr} (e : h.get? it = some (k.obj a)) : k.iter h it a 0 := by
  cases k with
  | l => exact ⟨_, e, rfl, rfl⟩
  | t => exact ⟨_, e, rfl, rfl⟩
theorem Sk.keep (k : Sk) {h h' : Heap} {it a : Addr} {i : Nat} (x : k.iter h it a i) (kp : ∀ o, h.get? it = some o → h'.get? it = some o) : k.iter h' it a i := by
  cases k with
  | l => exact Heap.IsListIter.at x kp
  | t => exact Heap.IsTupleIter.at x kp
theorem Sk.there (k : Sk) {h : Heap} {it a : Addr} {i : Nat} (x : k.iter h it a i) : ∃ o, h.get? it = some o ∧ ∀ v, o.data ≠ .cell v := by
  cases k with
  | l => obtain ⟨o, e, _, d⟩ := x; exact ⟨o, e, fun v q => by rw [d] at q; cases q⟩
  | t => obtain ⟨o, e, _, d⟩ := x; exact ⟨o, e, fun v q => by rw [d] at q; cases q⟩
theorem Sk.inv (k : Sk) {X : Cx} {pins : List (Addr × Obj)} {σ : St} {H : Hp} {s : Shared} {a : Addr} {xs : List V} (I : Inv X pins σ H s) (h : k.at X.K H a xs) :
    ∃ its : List Value, Vals xs its ∧ k.its s.heap a its.toArray ∧ a < s.heap.objs.size := by
  cases k with
  | l => obtain ⟨its, r, p, _⟩ := I.list h; exact ⟨its, r, p.isList, p.lt⟩
  | t => obtain ⟨its, r, p, _⟩ := I.tuple h; exact ⟨its, r, p, p.lt⟩
theorem Sk.inj (k : Sk) {X : Cx} {pins : List (Addr × Obj)} {σ : St} {H : Hp} {s : Shared} {a : Addr} {xs ys : List V} (I : Inv X pins σ H s) (h : k.at X.K H a xs) (h' : k.at X.K H a ys) : xs = ys := by
  cases k with
  | l => exact I.list_inj h h'
  | t => exact I.tuple_inj h h'
/-- the items of two sources in new pairs -/
def ItP (K : PySem.W.Frag) (k1 k2 : Sk) (a b : Addr) : It :=
  ⟨fun i H => ∃ (xs ys : List V) (x y : V), k1.at K H a xs ∧ k2.at K H b ys ∧ xs[i]? = some x ∧ ys[i]? = some y,
    fun i H v H' => ∃ T x y, v = .ref T ∧ H T = none ∧ H' = upd H T (.tup [x, y]) ∧ (∀ xs, k1.at K H a xs → xs[i]? = some x) ∧ ∀ ys, k2.at K H b ys → ys[i]? = some y,
    fun i H => ∃ xs ys : List V, k1.at K H a xs ∧ k2.at K H b ys ∧ i = min xs.length ys.length⟩
theorem get_of {xs : List V} {its : List Value} {i : Nat} {x : V} (r : Vals xs its) (h : xs[i]? = some x) {u : Value} (hu : its.toArray[i]? = some u) : RelV x u := by
  obtain ⟨w, hw, rw'⟩ := r.get h
  have e : its[i]? = some u := by simpa using hu
  rw [hw] at e
  cases e
  exact rw'
theorem turn_pair {P : Program} {w : World} {K : PySem.W.Frag} {elts : List Expr} {kk : Nat} {tpos : Pos} {k1 k2 : Sk} {a b z TI TO i1 i2 : Addr} (S : ZipSep2 z TI TO i1 i2 [i1, a] [i2, b]) (n1 : a ≠ i1) (n2 : b ≠ i2) :
    Turn P w K (.Tuple elts kk tpos) (ItP K k1 k2 a b) [z, TI, TO, i1, i2] z (fun i h => IsZip h z TI TO .none ∧ IsTupOf2 h TI (.ref i1) (.ref i2) ∧ (∃ x y, IsTupOf2 h TO x y) ∧ k1.iter h i1 a i ∧ k2.iter h i2 b i) where
  mem := by simp
  obj := fun i h st c hc => by
    obtain ⟨hz, hTI, ⟨x, y, hTO⟩, h1, h2⟩ := st
    simp only [List.mem_cons, List.not_mem_nil, or_false] at hc
    rcases hc with q | q | q | q | q <;> subst q
    · exact ⟨_, hz, fun v q => nomatch q⟩
    · exact ⟨_, hTI, fun v q => nomatch q⟩
    · exact ⟨_, hTO, fun v q => nomatch q⟩
    · exact k1.there h1
    · exact k2.there h2
  keep := fun i h h' st kp => by
    obtain ⟨hz, hTI, ⟨x, y, hTO⟩, h1, h2⟩ := st
    exact ⟨kp z (by simp) _ hz, kp TI (by simp) _ hTI, ⟨x, y, kp TO (by simp) _ hTO⟩, k1.keep h1 fun o q => kp i1 (by simp) o q, k2.keep h2 fun o q => kp i2 (by simp) o q⟩
  item := by
    intro X hP hw hK hc i pins s σ H E I hf st hg
    subst hP hw hK
    obtain ⟨hz, hTI, hTO, h1, h2⟩ := st
    obtain ⟨xs, ys, x, y, qx, qy, hx, hy⟩ := hg
    obtain ⟨us, r1, p1, _⟩ := k1.inv I qx
    obtain ⟨vs, r2, p2, _⟩ := k2.inv I qy
    have hh : X.A.in1.handled = none := I.ok.hd hc
    have W := GoesN.zip2 (prog := X.prog) (w := X.w) (A := X.A) (elts := elts) (x1 := kk) (pos := tpos) S (k1.draws hh i1 a n1 us.toArray) (k2.draws hh i2 b n2 vs.toArray)
    have l1 : i < us.toArray.size := by
      have := (List.getElem?_eq_some_iff.mp hx).1
      rw [r1.length] at this
      simpa using this
    have l2 : i < vs.toArray.size := by
      have := (List.getElem?_eq_some_iff.mp hy).1
      rw [r2.length] at this
      simpa using this
    refine W.goes i s _ E (Nat.lt_min.mpr ⟨l1, l2⟩) ⟨hz, hTI, hTO, ⟨h1, p1⟩, h2, p2⟩ fun v h' tk hY st' kp _ => ?_
    obtain ⟨T, u, u2, rfl, hT, e1, e2, o, eo, co, no, dO⟩ := hY
    obtain ⟨hz', hTI', hTO', ⟨h1', _⟩, h2', _⟩ := st'
    have new : ObjOk X.prog X.w (upd H T (.tup [x, y])) h' T (.tup [x, y]) :=
      ⟨by show 2 ≤ sizeLine; decide, [u, u2], .cons (get_of r1 hx e1) (.cons (get_of r2 hy e2) .nil), ⟨o, eo, co, no, dO⟩⟩
    have sub : ∀ c, c ∈ [z, TO, i1, i2] → c ∈ [z, TI, TO, i1, i2] := fun c hc => by
      simp only [List.mem_cons, List.not_mem_nil, or_false] at hc ⊢
      rcases hc with q | q | q | q
      · exact .inl q
      · exact .inr (.inr (.inl q))
      · exact .inr (.inr (.inr (.inl q)))
      · exact .inr (.inr (.inr (.inr q)))
    have I1 : Inv X pins σ (upd H T (.tup [x, y])) { s with heap := h', toks := tk } := I.turnedNew (ch := [z, TO, i1, i2]) (fun c o hb q => kp c o hb q) (fun c hc => hf c (sub c hc)) hT new
    refine ⟨.ref T, _, I1, rfl, ⟨T, x, y, rfl, I.hok.fresh hT, rfl, fun l hl => by rw [k1.inj I hl qx]; exact hx, fun l hl => by rw [k2.inj I hl qy]; exact hy⟩, ⟨hz', hTI', hTO', h1', h2'⟩, fun c hc => ?_⟩
    have lt : c < s.heap.objs.size := by
      simp only [List.mem_cons, List.not_mem_nil, or_false] at hc
      rcases hc with q | q | q | q | q <;> subst q
      · exact Heap.lt_size hz
      · exact Heap.lt_size hTI
      · obtain ⟨_, _, e⟩ := hTO; exact Heap.lt_size e
      · obtain ⟨_, e, _⟩ := k1.there h1; exact Heap.lt_size e
      · obtain ⟨_, e, _⟩ := k2.there h2; exact Heap.lt_size e
    rw [upd_ne (Nat.ne_of_lt (Nat.lt_of_lt_of_le lt hT))]
    exact (hf c hc).1
  done := by
    intro X hP hw hK hc i pins s σ H E I hf st hg
    subst hP hw hK
    obtain ⟨hz, hTI, hTO, h1, h2⟩ := st
    obtain ⟨xs, ys, qx, qy, hi⟩ := hg
    obtain ⟨us, r1, p1, _⟩ := k1.inv I qx
    obtain ⟨vs, r2, p2, _⟩ := k2.inv I qy
    have hh : X.A.in1.handled = none := I.ok.hd hc
    have W := GoesN.zip2 (prog := X.prog) (w := X.w) (A := X.A) (elts := elts) (x1 := kk) (pos := tpos) S (k1.draws hh i1 a n1 us.toArray) (k2.draws hh i2 b n2 vs.toArray)
    have en : i = min us.toArray.size vs.toArray.size := by
      rw [List.size_toArray, List.size_toArray, ← r1.length, ← r2.length]
      exact hi
    subst en
    have sub : ∀ c, c ∈ [z, TO, i1, i2] → c ∈ [z, TI, TO, i1, i2] := fun c hc => by
      simp only [List.mem_cons, List.not_mem_nil, or_false] at hc ⊢
      rcases hc with q | q | q | q
      · exact .inl q
      · exact .inr (.inr (.inl q))
      · exact .inr (.inr (.inr (.inl q)))
      · exact .inr (.inr (.inr (.inr q)))
    exact W.stops s _ E ⟨hz, hTI, hTO, ⟨h1, p1⟩, h2, p2⟩ fun h' tk kp _ => I.turnedL (ch := [z, TO, i1, i2]) (fun c o hb q => kp c o hb q) (fun c hc => hf c (sub c hc))
  self := fun A i s Q E st h => wpAny_pyIter_zip st.1 h
def iZipM (K : PySem.W.Frag) (ta : TA) : TI := fun σ H R => ta σ H fun vs H1 => ∃ (k1 k2 : Sk) (a b : Addr) (xs ys : List V), vs = [.ref a, .ref b] ∧ k1.at K H1 a xs ∧ k2.at K H1 b ys ∧ R (ItP K k1 k2 a b) H1
theorem pi_zipM {X : Cx} {e e2 : Expr} {ta : TA} {p pos tpos : Pos} {elts : List Expr} {kk : Nat} (hg : Gl X "zip") (hm : X.mg "zip" = none) (ha : PA X [e, e2] ta)
    (hs : starEach [e, e2] X.env = (false, eval e X.env) :: starEach [e2] X.env := by rfl) (hpl : (backTo pos (starEach [e2] X.env)).any (·.1) = false := by rfl) :
    PI X (.Tuple elts kk tpos) (.Call (.Name "zip" p) [e, e2] [] pos) (iZipM X.K ta) := by
  refine ⟨fun pins s σ H R I h => ?_⟩
  refine Call_ (ld_blt I hg hm PyProof.Rows.boot_zip (PyProof.Rows.callWith_type1 (thn (ha.run pos pins s σ H _ I h) fun us s1 ⟨vs, H1, I1, r1, q1⟩ => ?_) hs hpl))
  obtain ⟨k1, k2, a, b, xs, ys, ex, qx, qy, q⟩ := q1
  subst ex
  obtain ⟨u1, u2, rfl, ra, rb⟩ := vals2 r1
  obtain rfl : u1 = Value.ref a := ra
  obtain rfl : u2 = Value.ref b := rb
  obtain ⟨its, _, p1, la⟩ := k1.inv I1 qx
  obtain ⟨its2, _, p2, lb⟩ := k2.inv I1 qy
  refine zip_begins2 (k1.begins a its.toArray) (k2.begins b its2.toArray) p1 p2 fun h' hz hTI hTO e1 e2 _ hk => wpAny_pyIter_zip hz ?_
  have I2 : Inv X pins σ H1 { s1 with heap := h' } := I1.kept (t' := s1.toks) hk
  have S := zip_sep2 (N := s1.heap.objs.size) (fp1 := [a]) (fp2 := [b]) (fun c hc => by rw [List.mem_singleton.mp hc]; exact la) (fun c hc => by rw [List.mem_singleton.mp hc]; exact lb)
  refine ⟨s1.heap.objs.size + 4, [s1.heap.objs.size + 4, s1.heap.objs.size + 2, s1.heap.objs.size + 3, s1.heap.objs.size, s1.heap.objs.size + 1], _, _, H1, rfl, I2, turn_pair S (Nat.ne_of_lt la) (Nat.ne_of_lt (Nat.lt_succ_of_lt lb)),
    ⟨hz, hTI, ⟨_, _, hTO⟩, k1.start e1, k2.start e2⟩, fun c hc => ?_, q⟩
  have hle : s1.heap.objs.size ≤ c := by
    simp only [List.mem_cons, List.not_mem_nil, or_false] at hc
    rcases hc with z | z | z | z | z <;> rw [z]
    · exact Nat.le_add_right _ _
    · exact Nat.le_add_right _ _
    · exact Nat.le_add_right _ _
    · exact Nat.le_refl _
    · exact Nat.le_add_right _ _
  exact I1.fpOk hle (I1.hok.fresh hle)
end PB

/-! PN: enumerate over a list or a tuple. -/
namespace PB
open PySem PySem.Spec L2
open PyProof.Rows hiding St
set_option maxHeartbeats 8000000 in
theorem enum_new1 {v : Value} {o : Obj} {H : Heap → Prop} (B : Begins v o H) :
    Meets (Builtin.«enumerate.__new__» ⟨[.type "enumerate", v], []⟩) fun _ R s => H s.heap ∧
      R (.ok (.ret (.ref (s.heap.push o).objs.size))) { s with heap := (s.heap.push o).push { cls := .type "enumerate", data := .fields #[.none, .bool false, .ref s.heap.objs.size, rawInt 0, .none, .none] } } :=
  .of_wp fun prog w A R s h => by
    obtain ⟨hp, g, d, tk, os⟩ := s
    obtain ⟨h1, h⟩ := h
    have sb := sub_enumerate
    have q1 : ∀ {A' : Around} {E Q : Value → Shared → Prop}, Q (.ref hp.objs.size) ⟨hp.push o, g, d, tk, os⟩ → wpAny (model prog w) A' (pyIter v) Q E ⟨hp, g, d, tk, os⟩ := fun q => B.iter prog w _ _ ⟨hp, g, d, tk, os⟩ _ h1 q
    wp_walk using q1
    refine wpAny_stack_any fun st => wpAny_pure ?_
    split
    · rename_i c _ _ _ _ _
      cases (c == Value.type "enumerate") <;> (wp_walk using q1; exact ⟨_, rfl, h⟩)
    · wp_walk using q1
      exact ⟨_, rfl, h⟩
theorem enum_begins1 {prog : Program} {w : World} {A : Around} {E Q : Value → Shared → Prop} {s : Shared} {v : Value} {o : Obj} {H : Heap → Prop} (B : Begins v o H) (h1 : H s.heap)
    (h : ∀ h', IsEnum h' (s.heap.objs.size + 1) s.heap.objs.size 0 .none → h'.get? s.heap.objs.size = some o → (∀ b u, s.heap.get? b = some u → h'.get? b = some u) → Q (.ref (s.heap.objs.size + 1)) { s with heap := h' }) :
    wpAny (model prog w) A (call (.type "enumerate") [v]) Q E s := by
  refine callType_new F.called_enumerate (by decide) (F.typeCall_enumerate_1 _) (F.newCall_enumerate_1 _) (fun x => F.args_object_init_2 x _) F.entry_enumerate_new (enum_new1 B) ⟨h1, ?_⟩
  show _ ∧ _
  have hz : (s.heap.push o).objs.size = s.heap.objs.size + 1 := Heap.size_push ..
  rw [hz]
  have he : IsEnum ((s.heap.push o).push { cls := .type "enumerate", data := .fields #[.none, .bool false, .ref s.heap.objs.size, rawInt 0, .none, .none] }) (s.heap.objs.size + 1) s.heap.objs.size 0 .none := by
    rw [← hz]
    exact Heap.get?_push_size (s.heap.push o) rfl
  exact ⟨⟨_, he, rfl⟩, h _ he (Heap.get?_push_of_some _ (Heap.get?_push_size _ B.free)) fun b u x => Heap.get?_push_of_some _ (Heap.get?_push_of_some _ x)⟩
/-- the items of a source, each in a new pair with its index -/
def ItE (K : PySem.W.Frag) (k : Sk) (a : Addr) : It :=
  ⟨fun i H => ∃ (xs : List V) (x : V), k.at K H a xs ∧ xs[i]? = some x,
    fun i H v H' => ∃ T x, v = .ref T ∧ H T = none ∧ H' = upd H T (.tup [.int (i : Nat), x]) ∧ ∀ xs, k.at K H a xs → xs[i]? = some x,
    fun i H => ∃ xs : List V, k.at K H a xs ∧ i = xs.length⟩
theorem turn_num {P : Program} {w : World} {K : PySem.W.Frag} {elts : List Expr} {kk : Nat} {tpos : Pos} {k : Sk} {a e it : Addr} (n1 : a ≠ it) (n2 : e ≠ it) (n3 : e ≠ a) :
    Turn P w K (.Tuple elts kk tpos) (ItE K k a) [e, it] e (fun i h => (∃ old, IsEnum h e it ((0 : Int) + (i : Nat)) old) ∧ k.iter h it a i) where
  mem := by simp
  obj := fun i h st c hc => by
    obtain ⟨⟨old, he⟩, h1⟩ := st
    simp only [List.mem_cons, List.not_mem_nil, or_false] at hc
    rcases hc with q | q <;> subst q
    · exact ⟨_, he, fun v q => nomatch q⟩
    · exact k.there h1
  keep := fun i h h' st kp => by
    obtain ⟨⟨old, he⟩, h1⟩ := st
    exact ⟨⟨old, kp e (by simp) _ he⟩, k.keep h1 fun o q => kp it (by simp) o q⟩
  item := by
    intro X hP hw hK hc i pins s σ H E I hf st hg
    subst hP hw hK
    obtain ⟨he, h1⟩ := st
    obtain ⟨xs, x, qx, hx⟩ := hg
    obtain ⟨us, r1, p1, _⟩ := k.inv I qx
    have hh : X.A.in1.handled = none := I.ok.hd hc
    have W := GoesN.enumFrom (prog := X.prog) (w := X.w) (A := X.A) (elts := elts) (x1 := kk) (pos := tpos) 0 (k.draws hh it a n1 us.toArray) e n2 (by simp [n2, n3]) (by simp)
    have l1 : i < us.toArray.size := by
      have := (List.getElem?_eq_some_iff.mp hx).1
      rw [r1.length] at this
      simpa using this
    refine W.goes i s _ E l1 ⟨he, h1, p1⟩ fun v h' tk hY st' kp _ => ?_
    obtain ⟨T, t, u, rfl, hT, e1, o, eo, co, no, dO⟩ := hY
    obtain ⟨he', h1', _⟩ := st'
    have new : ObjOk X.prog X.w (upd H T (.tup [.int (i : Nat), x])) h' T (.tup [.int (i : Nat), x]) := by
      refine ⟨by show 2 ≤ sizeLine; decide, [.int (0 + (i : Nat)) t, u], .cons ⟨t, ?_⟩ (.cons (get_of r1 hx e1) .nil), ⟨o, eo, co, no, dO⟩⟩
      rw [Int.zero_add]
    have I1 : Inv X pins σ (upd H T (.tup [.int (i : Nat), x])) { s with heap := h', toks := tk } := I.turnedNew (ch := [e, it]) (fun c o hb q => kp c o hb q) hf hT new
    refine ⟨.ref T, _, I1, rfl, ⟨T, x, rfl, I.hok.fresh hT, rfl, fun l hl => by rw [k.inj I hl qx]; exact hx⟩, ⟨he', h1'⟩, fun c hc => ?_⟩
    have lt : c < s.heap.objs.size := by
      simp only [List.mem_cons, List.not_mem_nil, or_false] at hc
      rcases hc with q | q <;> subst q
      · obtain ⟨_, e⟩ := he; exact Heap.lt_size e
      · obtain ⟨_, e, _⟩ := k.there h1; exact Heap.lt_size e
    rw [upd_ne (Nat.ne_of_lt (Nat.lt_of_lt_of_le lt hT))]
    exact (hf c hc).1
  done := by
    intro X hP hw hK hc i pins s σ H E I hf st hg
    subst hP hw hK
    obtain ⟨he, h1⟩ := st
    obtain ⟨xs, qx, hi⟩ := hg
    obtain ⟨us, r1, p1, _⟩ := k.inv I qx
    have hh : X.A.in1.handled = none := I.ok.hd hc
    have W := GoesN.enumFrom (prog := X.prog) (w := X.w) (A := X.A) (elts := elts) (x1 := kk) (pos := tpos) 0 (k.draws hh it a n1 us.toArray) e n2 (by simp [n2, n3]) (by simp)
    have en : i = us.toArray.size := by
      rw [List.size_toArray, ← r1.length]
      exact hi
    subst en
    exact W.stops s _ E ⟨he, h1, p1⟩ fun h' tk kp _ => I.turnedL (ch := [e, it]) (fun c o hb q => kp c o hb q) hf
  self := fun A i s Q E st h => let ⟨⟨_, he⟩, _⟩ := st; wpAny_pyIter_enum he h
def iEnumM (K : PySem.W.Frag) (ta : TA) : TI := fun σ H R => ta σ H fun vs H1 => ∃ (k : Sk) (a : Addr) (xs : List V), vs = [.ref a] ∧ k.at K H1 a xs ∧ R (ItE K k a) H1
theorem pi_enumM {X : Cx} {e : Expr} {ta : TA} {p pos tpos : Pos} {elts : List Expr} {kk : Nat} (cl : X.calm = true) (hm : X.mg "enumerate" = none) (ha : PA X [e] ta) (hg : Gl X "enumerate" := by rfl) (hs : starEach [e] X.env = [(false, eval e X.env)] := by rfl) :
    PI X (.Tuple elts kk tpos) (.Call (.Name "enumerate" p) [e] [] pos) (iEnumM X.K ta) := by
  refine ⟨fun pins s σ H R I h => ?_⟩
  refine Call_ (ld_blt I hg hm boot_enumerate (PyProof.Rows.callWith_type1 (thn (ha.run pos pins s σ H _ I h) fun us s1 ⟨vs, H1, I1, r1, q1⟩ => ?_) hs rfl))
  obtain ⟨k, a, xs, ex, qx, q⟩ := q1
  subst ex
  rw [Vals.ref1 r1]
  obtain ⟨its, _, p1, la⟩ := k.inv I1 qx
  refine enum_begins1 (k.begins a its.toArray) p1 fun h' he e1 hk => wpAny_pyIter_enum he ?_
  have I2 : Inv X pins σ H1 { s1 with heap := h' } := I1.kept (t' := s1.toks) hk
  refine ⟨s1.heap.objs.size + 1, [s1.heap.objs.size + 1, s1.heap.objs.size], _, _, H1, rfl, I2, turn_num (Nat.ne_of_lt la) (Nat.succ_ne_self _) (Nat.ne_of_gt (Nat.lt_succ_of_lt la)), ⟨⟨.none, he⟩, k.start e1⟩, fun c hc => ?_, q⟩
  have hle : s1.heap.objs.size ≤ c := by
    simp only [List.mem_cons, List.not_mem_nil, or_false] at hc
    rcases hc with z | z <;> rw [z]
    · exact Nat.le_add_right _ _
    · exact Nat.le_refl _
  exact I1.fpOk hle (I1.hok.fresh hle)
/-- xs[i] read, for an xs[i] op= e -/
theorem get_list {X : Cx} : PGet X (rIxL X.K) := by
  intro pins s σ H o i ov iv Q I ro ri h
  obtain ⟨p, xs, k, z, rfl, rfl, hq, he, q⟩ := h
  obtain rfl : ov = Value.ref p := ro
  obtain ⟨t, rfl⟩ := (show ∃ t, iv = Value.int k t from ri)
  obtain ⟨its, r, pl, hz⟩ := I.list hq
  obtain ⟨j, h1, h2, h3, h4, h5⟩ := atI_get he
  obtain ⟨u, eu, ru⟩ := r.get h2
  have hl := r.length
  have hn := line63
  have fin : EP X pins σ Q u s := ⟨z, H, I, ru, q⟩
  by_cases h0 : 0 ≤ k
  · have hj : k.toNat = j := Option.some.inj ((seqIndex_of h0 h5).symm.trans h1)
    exact wpAny_getItem_list pl.isList h0 (by omega) (by rw [hj]; simpa using eu) fin
  · have hj : (k + (its.toArray.size : Int)).toNat = j := by
      rw [List.size_toArray, ← hl]
      exact Option.some.inj ((seqIndex_neg (by omega) h4).symm.trans h1)
    exact wpAny_getItem_list_neg pl.isList (by omega) (by rw [List.size_toArray] <;> omega) (by omega) (by rw [hj]; simpa using eu) fin
end PB

/-! PL: readings of loops, comprehensions, operators by kind. -/
namespace PB
open PySem PySem.Spec L2
open PyProof.Rows hiding St
section
variable {K : PySem.W.Frag} {H H' : Hp} {a p d : Addr} {xs ys : List V} {o : HO}
theorem sqL_of (h : H a = some (.lst xs)) : SqL K H a xs := .inl (.inl h)
theorem sqT_of (h : H a = some (.tup xs)) : SqT K H a xs := .inl (.inl h)
theorem sqL_new : SqL K (upd H p (.lst xs)) p xs := sqL_of upd_same
theorem sqT_new : SqT K (upd H p (.tup xs)) p xs := sqT_of upd_same
theorem sqL_ex (e : Ex H H') (h : SqL K H a xs) : SqL K H' a xs := e.sqL h
theorem sqT_ex (e : Ex H H') (h : SqT K H a xs) : SqT K H' a xs := e.sqT h
theorem sqL_up (n : H p = none) (h : SqL K H a xs) : SqL K (upd H p o) a xs := sqL_ex (Ex.new n) h
theorem sqT_up (n : H p = none) (h : SqT K H a xs) : SqT K (upd H p o) a xs := sqT_ex (Ex.new n) h
theorem at_ex {u : HO} (e : Ex H H') (h : H a = some u) : H' a = some u := e a u h
theorem at_up {u : HO} (n : H p = none) (h : H a = some u) : upd H p o a = some u := Ex.new n a u h
theorem free_up {q : Addr} (h : upd H p o q = none) (n : H p = none) : H q = none := (Ex.new (o := o) n).free h
/-- what stood elsewhere stands -/
theorem sqT_exb (e : ExB d H H') (n : a ≠ d) (h : SqT K H a xs) : SqT K H' a xs := by
  rcases h with (h | ⟨o, h⟩) | h
  · exact .inl (.inl (e _ _ n h))
  · exact .inl (.inr ⟨o, e _ _ n h⟩)
  · exact .inr h
theorem sqL_exb (e : ExB d H H') (n : a ≠ d) (h : SqL K H a xs) : SqL K H' a xs := by
  rcases h with (h | ⟨o, h⟩) | h
  · exact .inl (.inl (e _ _ n h))
  · exact .inl (.inr ⟨o, e _ _ n h⟩)
  · exact .inr h
/-- what is a tuple is no list of H -/
theorem sqT_ne {xs ys : List V} (h : SqT K H a xs) (hd : H d = some (.lst ys)) : a = d → ∃ o its n, K.lookup a = some o ∧ o.cls = .type "tuple" ∧ o.data = .seq its n ∧ its.size ≤ sizeLine ∧ Vals xs its.toList := fun e => by
  subst e
  rcases h with (h | ⟨o, h⟩) | h
  · rw [hd] at h; cases h
  · rw [hd] at h; cases h
  · exact h
end
section
variable {σ : St} {H : Hp} {Q : VK} {D : Ends} {K : PySem.W.Frag} {a b : Addr} {i j : Int}
/-! operators on ints -/
theorem r_addI (q : Q (.int (i + j)) H) : rAddA K (.int i) (.int j) H Q := .inl ⟨i, j, rfl, rfl, q⟩
theorem r_mulI (c : CMul i j) (q : Q (.int (i * j)) H) : rMulA (.int i) (.int j) H Q := .inl ⟨i, j, rfl, rfl, c, q⟩
theorem r_cmpI {g : Int → Int → Bool} {f : PyData → PyData → Bool} (q : Q (.bl (g i j)) H) : rCmpA K g f (.int i) (.int j) H Q := .inl ⟨i, j, rfl, rfl, q⟩
theorem r_eqI (q : Q (.bl (decide (i = j))) H) : rEqA K (.int i) (.int j) H Q := .inl ⟨rfl, by
  have e : decide (V.int i = V.int j) = decide (i = j) := decide_eq_decide.mpr ⟨fun h => V.int.inj h, fun h => by rw [h]⟩
  rw [e]; exact q⟩
theorem r_neI (q : Q (.bl (!decide (i = j))) H) : rNeA K (.int i) (.int j) H Q := .inl ⟨rfl, by
  have e : decide (V.int i = V.int j) = decide (i = j) := decide_eq_decide.mpr ⟨fun h => V.int.inj h, fun h => by rw [h]⟩
  rw [e]; exact q⟩
theorem r_modI (c : j ≠ 0) (q : Q (.int (i.fmod j)) H) : rI (fun _ j => j ≠ 0) (fun i j => .int (i.fmod j)) (.int i) (.int j) H Q := ⟨i, j, rfl, rfl, c, q⟩
theorem r_divI (c : CDivN i j) (q : Q (.int (i.fdiv j)) H) : rI CDivN (fun i j => .int (i.fdiv j)) (.int i) (.int j) H Q := ⟨i, j, rfl, rfl, c, q⟩
theorem r_powI (c : CPow i j) (q : Q (.int (i ^ j.toNat)) H) : rI CPow (fun i j => .int (i ^ j.toNat)) (.int i) (.int j) H Q := ⟨i, j, rfl, rfl, c, q⟩
/-! built-in functions -/
theorem r_sumL {ns : List Int} (h : SqL K H a (ns.map V.int)) (q : Q (.int ns.sum) H) : rSumA K [.ref a] H Q := .inl ⟨a, ns, rfl, h, q⟩
theorem r_sumT {ns : List Int} (h : SqT K H a (ns.map V.int)) (q : Q (.int ns.sum) H) : rSumA K [.ref a] H Q := .inr ⟨a, ns, rfl, h, q⟩
theorem r_all {bs : List Bool} (h : SqL K H a (bs.map V.bl)) (q : Q (.bl (bs.all id)) H) : rAll K [.ref a] H Q := ⟨a, bs, rfl, h, q⟩
theorem r_any {bs : List Bool} (h : SqL K H a (bs.map V.bl)) (q : Q (.bl (bs.any id)) H) : rAny K [.ref a] H Q := ⟨a, bs, rfl, h, q⟩
theorem r_max2 (q : Q (.int (max i j)) H) : rMax2A [V.int i, V.int j] H Q := ⟨i, j, rfl, by
  have e : (if j > i then j else i) = max i j := by omega
  rw [e]; exact q⟩
theorem r_min2 (q : Q (.int (min i j)) H) : rMin2A [V.int i, V.int j] H Q := ⟨i, j, rfl, by
  have e : (if j < i then j else i) = min i j := by omega
  rw [e]; exact q⟩
theorem r_abs (q : Q (.int (if i < 0 then -i else i)) H) : rAbsA [V.int i] H Q := ⟨i, rfl, q⟩
theorem r_int1 (q : Q (.int i) H) : rInt1A [V.int i] H Q := .inl ⟨i, rfl, q⟩
end
section
variable {H : Hp} {Q : VK} {K : PySem.W.Frag} {a : Addr} {xs : List V} {ns : List Int}
theorem r_isT (h : SqT K H a xs) (q : Q (.bl true) H) : rIsi K [.ref a, .ty "tuple"] H Q := r_isi (b := true) (.sqT h) rfl q
theorem r_lenL (h : SqL K H a xs) (q : Q (.int xs.length) H) : rLenA K [V.ref a] H Q := ⟨_, xs.length, rfl, .inl ⟨xs, h, rfl⟩, q⟩
theorem r_lenT (h : SqT K H a xs) (q : Q (.int xs.length) H) : rLenA K [V.ref a] H Q := ⟨_, xs.length, rfl, .inr ⟨xs, h, rfl⟩, q⟩
theorem r_lenLI (h : SqL K H a (ns.map V.int)) (q : Q (.int ns.length) H) : rLenA K [V.ref a] H Q := ⟨_, ns.length, rfl, .inl ⟨_, h, by rw [List.length_map]⟩, q⟩
theorem r_lenTI (h : SqT K H a (ns.map V.int)) (q : Q (.int ns.length) H) : rLenA K [V.ref a] H Q := ⟨_, ns.length, rfl, .inr ⟨_, h, by rw [List.length_map]⟩, q⟩
/-- tuple(list), ints -/
theorem r_tupL (h : SqL K H a xs) (q : ∀ p, H p = none → Q (.ref p) (upd H p (.tup xs))) : rTupA K [V.ref a] H Q := ⟨a, xs, rfl, .inl ⟨h, q⟩⟩
theorem r_tupT (h : SqT K H a xs) (q : Q (.ref a) H) : rTupA K [V.ref a] H Q := ⟨a, xs, rfl, .inr ⟨h, q⟩⟩
theorem r_listL (h : SqL K H a xs) (q : ∀ p, H p = none → Q (.ref p) (upd H p (.lst xs))) : rListA K [V.ref a] H Q := ⟨a, xs, rfl, .inl h, q⟩
theorem r_listT (h : SqT K H a xs) (q : ∀ p, H p = none → Q (.ref p) (upd H p (.lst xs))) : rListA K [V.ref a] H Q := ⟨a, xs, rfl, .inr h, q⟩
theorem r_ixL {i : Int} {v : V} (h : SqL K H a xs) (e : atI xs i = some v) (q : Q v H) : rIxA K (.ref a) (.int i) H Q := .inl ⟨a, xs, i, v, rfl, rfl, h, e, q⟩
theorem r_ixT {i : Int} {v : V} (h : SqT K H a xs) (e : atI xs i = some v) (q : Q v H) : rIxA K (.ref a) (.int i) H Q := .inr (.inl ⟨a, xs, i, v, rfl, rfl, h, e, q⟩)
theorem at_I {i : Nat} {n : Int} (h : ns[i]? = some n) : atI (ns.map V.int) (i : Int) = some (.int n) := atI_nat (by rw [List.getElem?_map, h]; rfl)
theorem r_ixLI {i : Nat} {n : Int} (h : SqL K H a (ns.map V.int)) (e : ns[i]? = some n) (q : Q (.int n) H) : rIxA K (.ref a) (.int (i : Nat)) H Q := r_ixL h (at_I e) q
theorem r_ixTI {i : Nat} {n : Int} (h : SqT K H a (ns.map V.int)) (e : ns[i]? = some n) (q : Q (.int n) H) : rIxA K (.ref a) (.int (i : Nat)) H Q := r_ixT h (at_I e) q
end
/-! loops: what a for asks of its walk, what a comprehension asks of it -/
def FQ (g : TG) (tb : TS) (D : Ends) (σ : St) : It → Hp → Prop := fun J H1 => ∃ W : Nat → Nat → St → Hp → Prop, (∃ m, W 0 m σ H1) ∧ ∀ i m σ H, W i m σ H →
  (J.stop i H ∧ D.nx σ H) ∨ (J.go i H ∧ ∃ N : St → Hp → Prop, (∀ σ' H', N σ' H' → ∃ m', m' < m ∧ W (i + 1) m' σ' H') ∧ ∀ x H', J.yld i H x H' → g x σ H' fun σ2 H2 => tb { D with nx := N, ct := N, bk := D.nx } σ2 H2)
def CQ (g : TG) (tt : TT) (te : TE) (vs : List Nat) (σ : St) (Q : VK) : It → Hp → Prop := fun J H1 => ∀ L, H1 L = none → ∃ W : Nat → Nat → Hp → Prop, (∃ m, W 0 m (upd H1 L (.lst []))) ∧ ∀ i m H, W i m H →
  (J.stop i H ∧ Q (.ref L) H) ∨ (J.go i H ∧ ∃ Nx : Hp → Prop, (∀ H', Nx H' → ∃ m', m' < m ∧ W (i + 1) m' H') ∧ ∀ x H', J.yld i H x H' → g x (wipe σ vs) H' fun σ2 H2 => wipe σ2 vs = wipe σ vs ∧ tt σ2 H2 fun b H3 =>
    if b = true then te σ2 H3 fun y H4 => ∃ acc, H4 L = some (.lst acc) ∧ acc.length < sizeLine ∧ Nx (upd H4 L (.lst (acc ++ [y]))) else Nx H3)
def sQ (K : PySem.W.Frag) (R : It → Hp → Prop) : VK := fun x H1 => ∃ a xs, x = .ref a ∧ ((SqL K H1 a xs ∧ R (Itl K a) H1) ∨ (SqT K H1 a xs ∧ R (Itt K a) H1))
def zQ (K : PySem.W.Frag) (R : It → Hp → Prop) : List V → Hp → Prop := fun vs H1 => ∃ (k1 k2 : Sk) (a b : Addr) (xs ys : List V), vs = [.ref a, .ref b] ∧ k1.at K H1 a xs ∧ k2.at K H1 b ys ∧ R (ItP K k1 k2 a b) H1
def eQ (K : PySem.W.Frag) (R : It → Hp → Prop) : List V → Hp → Prop := fun vs H1 => ∃ (k : Sk) (a : Addr) (xs : List V), vs = [.ref a] ∧ k.at K H1 a xs ∧ R (ItE K k a) H1
def nQ1 (R : It → Hp → Prop) : List V → Hp → Prop := fun vs H1 => ∃ j : Int, vs = [.int j] ∧ -(2 ^ 62) ≤ j ∧ j < 2 ^ 62 ∧ R (Itr 0 j.toNat) H1
def nQ2 (R : It → Hp → Prop) : List V → Hp → Prop := fun vs H1 => ∃ i j : Int, vs = [.int i, .int j] ∧ (-(2 ^ 62) ≤ i ∧ i < 2 ^ 62 ∧ -(2 ^ 62) ≤ j ∧ j < 2 ^ 62) ∧ R (Itr i (j - i).toNat) H1
section
variable {σ : St} {H : Hp} {Q : VK} {D : Ends} {K : PySem.W.Frag} {wi : TI} {tl : TE} {ta : TA} {g : TG} {tb : TS} {tt : TT} {te : TE} {vs : List Nat} {R : It → Hp → Prop}
theorem r_yes {Q : Bool → Hp → Prop} (h : Q true H) : tYes σ H Q := h
theorem r_for (h : wi σ H (FQ g tb D σ)) : tFor wi g tb D σ H := h
theorem r_lc (h : wi σ H (CQ g tt te vs σ Q)) : tLc wi g tt te vs σ H Q := h
theorem r_iSeq (h : tl σ H (sQ K R)) : iSeq K tl σ H R := h
theorem r_iZip (h : ta σ H (zQ K R)) : iZipM K ta σ H R := h
theorem r_iEnum (h : ta σ H (eQ K R)) : iEnumM K ta σ H R := h
theorem r_iRng1 (h : ta σ H (nQ1 R)) : iRng1 ta σ H R := h
theorem r_iRng2 (h : ta σ H (nQ2 R)) : iRng2 ta σ H R := h
end
section
variable {H : Hp} {K : PySem.W.Frag} {R : It → Hp → Prop} {a b : Addr} {xs ys : List V}
def ItS (K : PySem.W.Frag) : Sk → Addr → It
  | .l, a => Itl K a
  | .t, a => Itt K a
theorem walk_S {k : Sk} : Walk (ItS K k a) xs.length (fun H => k.at K H a xs) (YAt xs) := by
  cases k with
  | l => exact walk_list
  | t => exact walk_tup
theorem s_S {k : Sk} (h : k.at K H a xs) (r : R (ItS K k a) H) : sQ K R (.ref a) H := by
  cases k with
  | l => exact ⟨a, xs, rfl, .inl ⟨h, r⟩⟩
  | t => exact ⟨a, xs, rfl, .inr ⟨h, r⟩⟩
theorem s_L (h : SqL K H a xs) (r : R (Itl K a) H) : sQ K R (.ref a) H := ⟨a, xs, rfl, .inl ⟨h, r⟩⟩
theorem s_T (h : SqT K H a xs) (r : R (Itt K a) H) : sQ K R (.ref a) H := ⟨a, xs, rfl, .inr ⟨h, r⟩⟩
theorem z_P {k1 k2 : Sk} (h1 : k1.at K H a xs) (h2 : k2.at K H b ys) (r : R (ItP K k1 k2 a b) H) : zQ K R [.ref a, .ref b] H := ⟨k1, k2, a, b, xs, ys, rfl, h1, h2, r⟩
theorem e_P {k : Sk} (h : k.at K H a xs) (r : R (ItE K k a) H) : eQ K R [.ref a] H := ⟨k, a, xs, rfl, h, r⟩
theorem n_1 {n : Int} (h : -(2 ^ 62) ≤ n ∧ n < 2 ^ 62) (r : R (Itr 0 n.toNat) H) : nQ1 R [.int n] H := ⟨n, rfl, h.1, h.2, r⟩
theorem n_2 {m n : Int} (h : -(2 ^ 62) ≤ m ∧ m < 2 ^ 62 ∧ -(2 ^ 62) ≤ n ∧ n < 2 ^ 62) (r : R (Itr m (n - m).toNat) H) : nQ2 R [.int m, .int n] H := ⟨m, n, rfl, h, r⟩
theorem walk_P {k1 k2 : Sk} {n : Nat} (hn : n = min xs.length ys.length) : Walk (ItP K k1 k2 a b) n (fun H => k1.at K H a xs ∧ k2.at K H b ys) (YPair (fun i => xs[i]?) (fun i => ys[i]?)) := by
  subst hn
  refine ⟨fun i _ hi q => ?_, fun _ q => ⟨xs, ys, q.1, q.2, rfl⟩, fun i H v H' _ q y => ?_⟩
  · have h1 : i < xs.length := by omega
    have h2 : i < ys.length := by omega
    exact ⟨xs, ys, xs[i], ys[i], q.1, q.2, List.getElem?_eq_getElem h1, List.getElem?_eq_getElem h2⟩
  · obtain ⟨T, x, z, h1, h2, h3, h4, h5⟩ := y
    exact ⟨T, x, z, h1, h2, h3, h4 xs q.1, h5 ys q.2⟩
theorem walk_E {k : Sk} : Walk (ItE K k a) xs.length (fun H => k.at K H a xs) (YPair (fun i => some (.int (i : Nat))) (fun i => xs[i]?)) := by
  refine ⟨fun i _ hi q => ⟨xs, xs[i], q, List.getElem?_eq_getElem hi⟩, fun _ q => ⟨xs, q, rfl⟩, fun i H v H' _ q y => ?_⟩
  obtain ⟨T, x, h1, h2, h3, h4⟩ := y
  exact ⟨T, .int (i : Nat), x, h1, h2, h3, rfl, h4 xs q⟩
end
/-! a for by its walk -/
section
variable {σ : St} {H : Hp} {D : Ends} {K : PySem.W.Frag} {g : TG} {tb : TS} {J : It} {n : Nat} {G : Hp → Prop} {Y : Nat → Hp → V → Hp → Prop}
theorem f_it (w : Walk J n G Y) (Pv : Nat → St → Hp → Prop) (h0 : Pv 0 σ H) (hG : ∀ i σ H, i ≤ n → Pv i σ H → G H)
    (hs : ∀ i x σ H H', i < n → Pv i σ H → Y i H x H' → g x σ H' fun σ2 H2 => tb { D with nx := Pv (i + 1), ct := Pv (i + 1), bk := D.nx } σ2 H2) (hd : ∀ σ H, Pv n σ H → D.nx σ H) : FQ g tb D σ J H := for_it w Pv h0 hG hs hd
/-- a range by one name -/
theorem f_rng {lo : Int} {j : Nat} (Pv : Nat → St → Hp → Prop) (h0 : Pv 0 σ H)
    (hs : ∀ (i : Nat) σ H, i < n → Pv i σ H → tb { D with nx := Pv (i + 1), ct := Pv (i + 1), bk := D.nx } (σ.set j (some (.int (lo + i)))) H) (hd : ∀ σ H, Pv n σ H → D.nx σ H) : FQ (gName j) tb D σ (Itr lo n) H :=
  for_range Pv h0 (fun i σ H hi p => hs i σ H hi p) hd
/-- a list or a tuple by one name -/
theorem f_seq {k : Sk} {a : Addr} {xs : List V} {j : Nat} (h : k.at K H a xs) (Pv : Nat → St → Hp → Prop) (h0 : Pv 0 σ H) (hG : ∀ i σ H, i ≤ xs.length → Pv i σ H → k.at K H a xs)
    (hs : ∀ i x σ H, xs[i]? = some x → Pv i σ H → tb { D with nx := Pv (i + 1), ct := Pv (i + 1), bk := D.nx } (σ.set j (some x)) H) (hd : ∀ σ H, Pv xs.length σ H → D.nx σ H) : sQ K (FQ (gName j) tb D σ) (.ref a) H :=
  s_S h (f_it walk_S Pv h0 hG (fun i x σ H H' _ p y => by
    obtain ⟨e, y⟩ := y
    subst e
    exact hs i x σ H' y p) hd)
/-- a pair's two names -/
theorem g_two {σ : St} {H : Hp} {K : PySem.W.Frag} {i j : Nat} {T : Addr} {x y : V} {Q : St → Hp → Prop} (q : Q ((σ.set i (some x)).set j (some y)) (upd H T (.tup [x, y]))) : gTup K 2 (gCons (gName i) (gCons (gName j) gNil)) (.ref T) σ (upd H T (.tup [x, y])) Q :=
  ⟨T, [x, y], rfl, sqT_new, rfl, x, [y], rfl, y, [], rfl, rfl, q⟩
/-- enumerate by two names -/
theorem f_enum {k : Sk} {a : Addr} {xs : List V} {j l : Nat} (h : k.at K H a xs) (Pv : Nat → St → Hp → Prop) (h0 : Pv 0 σ H) (hG : ∀ i σ H, i ≤ xs.length → Pv i σ H → k.at K H a xs)
    (hs : ∀ (i : Nat) x T σ H, xs[i]? = some x → Pv i σ H → H T = none → tb { D with nx := Pv (i + 1), ct := Pv (i + 1), bk := D.nx } ((σ.set j (some (.int (i : Nat)))).set l (some x)) (upd H T (.tup [.int (i : Nat), x]))) (hd : ∀ σ H, Pv xs.length σ H → D.nx σ H) :
    eQ K (FQ (gTup K 2 (gCons (gName j) (gCons (gName l) gNil))) tb D σ) [.ref a] H :=
  e_P h (f_it walk_E Pv h0 hG (fun i x σ H H' _ p y => by
    obtain ⟨T, u, v, e1, h1, e2, e3, e4⟩ := y
    obtain rfl := Option.some.inj e3
    subst e1 e2
    exact g_two (hs i v T σ H e4 p h1)) hd)
/-- zip by two names -/
theorem f_zip {k1 k2 : Sk} {a b : Addr} {xs ys : List V} {j l : Nat} (h1 : k1.at K H a xs) (h2 : k2.at K H b ys) (hn : n = min xs.length ys.length) (Pv : Nat → St → Hp → Prop) (h0 : Pv 0 σ H) (hG : ∀ i σ H, i ≤ n → Pv i σ H → k1.at K H a xs ∧ k2.at K H b ys)
    (hs : ∀ (i : Nat) x y T σ H, xs[i]? = some x → ys[i]? = some y → Pv i σ H → H T = none → tb { D with nx := Pv (i + 1), ct := Pv (i + 1), bk := D.nx } ((σ.set j (some x)).set l (some y)) (upd H T (.tup [x, y]))) (hd : ∀ σ H, Pv n σ H → D.nx σ H) :
    zQ K (FQ (gTup K 2 (gCons (gName j) (gCons (gName l) gNil))) tb D σ) [.ref a, .ref b] H :=
  z_P h1 h2 (f_it (walk_P hn) Pv h0 hG (fun i x σ H H' _ p y => by
    obtain ⟨T, u, v, e1, h1, e2, e3, e4⟩ := y
    subst e1 e2
    exact g_two (hs i u v T σ H e3 e4 p h1)) hd)
end
/-! a comprehension by its walk -/
section
variable {σ : St} {H : Hp} {Q : VK} {K : PySem.W.Frag} {g : TG} {tt : TT} {te : TE} {vs : List Nat} {J : It} {n : Nat} {G : Hp → Prop} {Y : Nat → Hp → V → Hp → Prop}
/-- nothing that stood changes; Φ is told of the items so far -/
theorem c_it (w : Walk J n G Y) (hn : n < 16000000) (hG : ∀ H', Ex H H' → G H') (Φ : Nat → List V → Hp → Prop) (h0 : ∀ H', Ex H H' → Φ 0 [] H')
    (st : ∀ L i acc H1 u u', H1 L = some (.lst u) → H L = none → Φ i acc H1 → Φ i acc (upd H1 L (.lst u')))
    (turn : ∀ i x acc H1 H2 (q : VK) (N : Hp → Prop), i < n → Ex H H1 → Φ i acc H1 → Y i H1 x H2 → (∀ y H4, Ex H1 H4 → Φ (i + 1) (acc ++ [y]) H4 → q y H4) → (∀ H3, Ex H1 H3 → Φ (i + 1) acc H3 → N H3) →
      g x (wipe σ vs) H2 fun σ2 H3 => wipe σ2 vs = wipe σ vs ∧ tt σ2 H3 fun b H4 => if b = true then te σ2 H4 q else N H4)
    (done : ∀ L acc H', H L = none → Ex H H' → H' L = some (.lst acc) → acc.length ≤ n → Φ n acc H' → Q (.ref L) H') : CQ g tt te vs σ Q J H := by
  intro L hL
  refine lc_it w (fun i H' => ∃ acc, Ex H H' ∧ H' L = some (.lst acc) ∧ acc.length ≤ i ∧ Φ i acc H') ⟨[], Ex.new hL, upd_same, Nat.le_refl _, h0 _ (Ex.new hL)⟩ (fun i H' _ p => hG H' p.choose_spec.1) ?_ ?_
  · rintro i x H1 H2 hi ⟨acc, e1, e2, e3, e4⟩ y
    refine turn i x acc H1 H2 _ _ hi e1 e4 y (fun z H4 e5 e6 => ⟨acc, e5 _ _ e2, Nat.lt_of_le_of_lt (Nat.le_trans e3 (by omega)) (show 16000000 < sizeLine by decide), acc ++ [z], ?_, upd_same, ?_, st L _ _ _ acc _ (e5 _ _ e2) hL e6⟩) fun H3 e5 e6 => ⟨acc, e1.trans e5, e5 _ _ e2, Nat.le_succ_of_le e3, e6⟩
    · intro b o hb
      have hne : b ≠ L := fun z => by rw [z, hL] at hb; cases hb
      exact (upd_ne hne).trans ((e1.trans e5) b o hb)
    · rw [List.length_append, List.length_singleton]; omega
  · rintro H' ⟨acc, e1, e2, e3, e4⟩
    exact done L acc H' hL e1 e2 e3 e4
/-- what each turn gives is known ahead: f i, or nothing -/
theorem c_fn (w : Walk J n G Y) (f : Nat → Option V) (hn : n < 16000000) (hG : ∀ H', Ex H H' → G H')
    (turn : ∀ i x H1 H2 (q : VK) (N : Hp → Prop), i < n → Ex H H1 → Y i H1 x H2 → (∀ y H4, f i = some y → Ex H1 H4 → q y H4) → (∀ H3, f i = none → Ex H1 H3 → N H3) →
      g x (wipe σ vs) H2 fun σ2 H3 => wipe σ2 vs = wipe σ vs ∧ tt σ2 H3 fun b H4 => if b = true then te σ2 H4 q else N H4)
    (done : ∀ L H', H L = none → Ex H H' → H' L = some (.lst ((List.range n).filterMap f)) → Q (.ref L) H') : CQ g tt te vs σ Q J H := by
  refine c_it w hn hG (fun i acc _ => acc = (List.range i).filterMap f) (fun _ _ => rfl) (fun _ _ _ _ _ _ _ _ e => e) ?_ ?_
  · intro i x acc H1 H2 q N hi e1 e2 y hq hN
    refine turn i x H1 H2 q N hi e1 y (fun z H4 e3 e4 => hq z H4 e4 ?_) fun H3 e3 e4 => hN H3 e4 ?_
    · rw [List.range_succ, List.filterMap_append, ← e2]
      show _ = acc ++ (List.filterMap f [i])
      rw [List.filterMap_cons, e3]; rfl
    · rw [List.range_succ, List.filterMap_append, ← e2]
      show _ = acc ++ (List.filterMap f [i])
      rw [List.filterMap_cons, e3]; exact (List.append_nil _).symm
  · intro L acc H' hL e1 e2 _ e4
    rw [e4] at e2
    exact done L H' hL e1 e2
theorem range_fm {α β : Type} (xs : List β) (h : β → Option α) : (List.range xs.length).filterMap (fun i => xs[i]?.bind h) = xs.filterMap h := by
  induction xs with
  | nil => rfl
  | cons x xs ih =>
    rw [List.length_cons, List.range_succ_eq_map, List.filterMap_cons, List.filterMap_map]
    show (match h x with | none => _ | some b => _) = _
    rw [List.filterMap_cons, ← ih]; rfl
/-- over a list or a tuple, by one name, what it gives is a function of the item -/
theorem c_seq {k : Sk} {a : Addr} {xs : List V} {j : Nat} (h : k.at K H a xs) (f : V → Option V) (hn : xs.length < 16000000) (hG : ∀ H', Ex H H' → k.at K H' a xs) (hw : ∀ x, wipe ((wipe σ vs).set j (some x)) vs = wipe σ vs)
    (turn : ∀ x H1 (q : VK) (N : Hp → Prop), x ∈ xs → Ex H H1 → (∀ y H4, f x = some y → Ex H1 H4 → q y H4) → (∀ H3, f x = none → Ex H1 H3 → N H3) →
      tt ((wipe σ vs).set j (some x)) H1 fun b H4 => if b = true then te ((wipe σ vs).set j (some x)) H4 q else N H4)
    (done : ∀ L H', H L = none → Ex H H' → H' L = some (.lst (xs.filterMap f)) → Q (.ref L) H') : sQ K (CQ (gName j) tt te vs σ Q) (.ref a) H :=
  s_S h (c_fn walk_S (fun i => xs[i]?.bind f) hn hG (fun i x H1 H2 q N hi e1 y hq hN => by
    obtain ⟨e2, y⟩ := y
    subst e2
    refine ⟨hw x, turn x H2 q N (List.mem_of_getElem? y) e1 (fun z H4 e3 e4 => hq z H4 (by rw [y]; exact e3) e4) fun H3 e3 e4 => hN H3 (by rw [y]; exact e3) e4⟩)
    (fun L H' h1 h2 h3 => done L H' h1 h2 (by rw [← range_fm]; exact h3)))
/-- over zip, by two names -/
theorem c_zip {k1 k2 : Sk} {a b : Addr} {xs ys : List V} {j l : Nat} (h1 : k1.at K H a xs) (h2 : k2.at K H b ys) (f : V → V → Option V) (hl : xs.length = ys.length) (hn : xs.length < 16000000) (hG : ∀ H', Ex H H' → k1.at K H' a xs ∧ k2.at K H' b ys)
    (hw : ∀ x y, wipe (((wipe σ vs).set j (some x)).set l (some y)) vs = wipe σ vs)
    (turn : ∀ x y T H1 (q : VK) (N : Hp → Prop), (x, y) ∈ xs.zip ys → Ex H H1 → H1 T = none → (∀ z H4, f x y = some z → Ex H1 H4 → q z H4) → (∀ H3, f x y = none → Ex H1 H3 → N H3) →
      tt (((wipe σ vs).set j (some x)).set l (some y)) (upd H1 T (.tup [x, y])) fun b H4 => if b = true then te (((wipe σ vs).set j (some x)).set l (some y)) H4 q else N H4)
    (done : ∀ L H', H L = none → Ex H H' → H' L = some (.lst ((xs.zip ys).filterMap fun z => f z.1 z.2)) → Q (.ref L) H') : zQ K (CQ (gTup K 2 (gCons (gName j) (gCons (gName l) gNil))) tt te vs σ Q) [.ref a, .ref b] H := by
  have hz : (xs.zip ys).length = xs.length := by rw [List.length_zip]; omega
  refine z_P h1 h2 (c_fn (walk_P (n := xs.length) (by omega)) (fun i => (xs.zip ys)[i]?.bind fun z => f z.1 z.2) hn hG (fun i x H1 H2 q N hi e1 y hq hN => ?_) (fun L H' h1 h2 h3 => done L H' h1 h2 ?_))
  · obtain ⟨T, u, v, e2, e3, e4, e5, e6⟩ := y
    subst e2 e4
    have ez : (xs.zip ys)[i]? = some (u, v) := by
      rw [List.getElem?_zip_eq_some]
      exact ⟨e5, e6⟩
    exact g_two ⟨hw u v, turn u v T H1 q N (List.mem_of_getElem? ez) e1 e3 (fun z H4 e7 e8 => hq z H4 (by rw [ez]; exact e7) e8) fun H3 e7 e8 => hN H3 (by rw [ez]; exact e7) e8⟩
  · rw [← hz] at h3
    rw [h3]
    rw [range_fm (xs.zip ys) fun z => f z.1 z.2]
theorem Sk.ex {H H' : Hp} {a : Addr} {xs : List V} (k : Sk) (e : Ex H H') (h : k.at K H a xs) : k.at K H' a xs := by
  cases k with
  | l => exact sqL_ex e h
  | t => exact sqT_ex e h
/-- ints to ints -/
theorem c_seqI {k : Sk} {a : Addr} {ns : List Int} {j : Nat} (h : k.at K H a (ns.map V.int)) (f : Int → Int) (hn : ns.length < 16000000) (hw : ∀ x, wipe ((wipe σ vs).set j (some x)) vs = wipe σ vs)
    (turn : ∀ x H1 (q : VK) (N : Hp → Prop), x ∈ ns → Ex H H1 → (∀ H4, Ex H1 H4 → q (.int (f x)) H4) → tt ((wipe σ vs).set j (some (.int x))) H1 fun b H4 => if b = true then te ((wipe σ vs).set j (some (.int x))) H4 q else N H4)
    (done : ∀ L H', H L = none → Ex H H' → H' L = some (.lst ((ns.map f).map V.int)) → Q (.ref L) H') : sQ K (CQ (gName j) tt te vs σ Q) (.ref a) H := by
  refine c_seq h (fun v => match v with | .int i => some (.int (f i)) | _ => none) (by rw [List.length_map]; exact hn) (fun H' e => k.ex e h) hw (fun x H1 q N hx e hq _ => ?_) fun L H' h1 h2 h3 => done L H' h1 h2 ?_
  · obtain ⟨n, hn, rfl⟩ := List.mem_map.mp hx
    exact turn n H1 q N hn e fun H4 e4 => hq _ H4 rfl e4
  · rw [h3]
    congr 2
    clear h3 h hn turn done
    induction ns with
    | nil => rfl
    | cons n ns ih => rw [List.map_cons, List.filterMap_cons, ih]; rfl
/-- ints to truths -/
theorem c_seqB {k : Sk} {a : Addr} {ns : List Int} {j : Nat} (h : k.at K H a (ns.map V.int)) (f : Int → Bool) (hn : ns.length < 16000000) (hw : ∀ x, wipe ((wipe σ vs).set j (some x)) vs = wipe σ vs)
    (turn : ∀ x H1 (q : VK) (N : Hp → Prop), x ∈ ns → Ex H H1 → (∀ H4, Ex H1 H4 → q (.bl (f x)) H4) → tt ((wipe σ vs).set j (some (.int x))) H1 fun b H4 => if b = true then te ((wipe σ vs).set j (some (.int x))) H4 q else N H4)
    (done : ∀ L H', H L = none → Ex H H' → H' L = some (.lst ((ns.map f).map V.bl)) → Q (.ref L) H') : sQ K (CQ (gName j) tt te vs σ Q) (.ref a) H := by
  refine c_seq h (fun v => match v with | .int i => some (.bl (f i)) | _ => none) (by rw [List.length_map]; exact hn) (fun H' e => k.ex e h) hw (fun x H1 q N hx e hq _ => ?_) fun L H' h1 h2 h3 => done L H' h1 h2 ?_
  · obtain ⟨n, hn, rfl⟩ := List.mem_map.mp hx
    exact turn n H1 q N hn e fun H4 e4 => hq _ H4 rfl e4
  · rw [h3]
    congr 2
    clear h3 h hn turn done
    induction ns with
    | nil => rfl
    | cons n ns ih => rw [List.map_cons, List.filterMap_cons, ih]; rfl
theorem zip_I (f : Int → Int → Int) : ∀ gs as : List Int, (((gs.map V.int).zip (as.map V.int)).filterMap fun z => (match z.1, z.2 with | .int i, .int j => some (V.int (f i j)) | _, _ => none)) = ((gs.zip as).map fun p => f p.1 p.2).map V.int
  | [], _ => rfl
  | _ :: _, [] => rfl
  | g :: gs, a :: as => by
    rw [List.map_cons, List.map_cons, List.zip_cons_cons, List.zip_cons_cons, List.filterMap_cons, zip_I f gs as]; rfl
theorem mem_zipI : ∀ {gs as : List Int} {x y : V}, (x, y) ∈ (gs.map V.int).zip (as.map V.int) → ∃ i j, x = .int i ∧ y = .int j ∧ (i, j) ∈ gs.zip as
  | [], _, x, y, h => by rw [List.map_nil, List.zip_nil_left] at h; cases h
  | _ :: _, [], x, y, h => by rw [List.map_nil, List.zip_nil_right] at h; cases h
  | g :: gs, a :: as, x, y, h => by
    rw [List.map_cons, List.map_cons, List.zip_cons_cons, List.mem_cons] at h
    rcases h with h | h
    · cases h; exact ⟨g, a, rfl, rfl, List.mem_cons_self ..⟩
    · obtain ⟨i, j, h1, h2, h3⟩ := mem_zipI h
      exact ⟨i, j, h1, h2, List.mem_cons_of_mem _ h3⟩
/-- two sources of ints to ints -/
theorem c_zipI {k1 k2 : Sk} {a b : Addr} {gs as : List Int} {j l : Nat} (h1 : k1.at K H a (gs.map V.int)) (h2 : k2.at K H b (as.map V.int)) (f : Int → Int → Int) (hl : gs.length = as.length) (hn : gs.length < 16000000)
    (hw : ∀ x y, wipe (((wipe σ vs).set j (some x)).set l (some y)) vs = wipe σ vs)
    (turn : ∀ x y T H1 (q : VK) (N : Hp → Prop), (x, y) ∈ gs.zip as → Ex H H1 → H1 T = none → (∀ H4, Ex H1 H4 → q (.int (f x y)) H4) →
      tt (((wipe σ vs).set j (some (.int x))).set l (some (.int y))) (upd H1 T (.tup [.int x, .int y])) fun b H4 => if b = true then te (((wipe σ vs).set j (some (.int x))).set l (some (.int y))) H4 q else N H4)
    (done : ∀ L H', H L = none → Ex H H' → H' L = some (.lst (((gs.zip as).map fun p => f p.1 p.2).map V.int)) → Q (.ref L) H') : zQ K (CQ (gTup K 2 (gCons (gName j) (gCons (gName l) gNil))) tt te vs σ Q) [.ref a, .ref b] H := by
  refine c_zip h1 h2 (fun u v => match u, v with | .int i, .int j => some (V.int (f i j)) | _, _ => none) (by rw [List.length_map, List.length_map]; exact hl) (by rw [List.length_map]; exact hn) (fun H' e => ⟨k1.ex e h1, k2.ex e h2⟩) hw (fun x y T H1 q N hx e hT hq _ => ?_)
    fun L H' d1 d2 d3 => done L H' d1 d2 (by rw [d3, zip_I])
  obtain ⟨i, j, rfl, rfl, hm⟩ := mem_zipI hx
  exact turn i j T H1 q N hm e hT fun H4 e4 => hq _ H4 rfl e4
end
section
variable {σ : St} {H : Hp} {D : Ends} {c : TT} {tb : TS} {ta : TA} {i j : Nat} {x y : V}
theorem r_while (W : Nat → St → Hp → Prop) (m : Nat) (h0 : W m σ H)
    (hs : ∀ m σ H, W m σ H → c σ H fun b H1 => if b = true then ∃ N : St → Hp → Prop, (∀ σ' H', N σ' H' → ∃ m', m' < m ∧ W m' σ' H') ∧ tb { D with nx := N, ct := N, bk := D.nx } σ H1 else D.nx σ H1) : tWhile c tb D σ H := ⟨W, ⟨m, h0⟩, hs⟩
theorem r_wN {W : Nat → St → Hp → Prop} {m : Nat} (q : tb { D with nx := fun σ' H' => ∃ m', m' < m ∧ W m' σ' H', ct := fun σ' H' => ∃ m', m' < m ∧ W m' σ' H', bk := D.nx } σ H) :
    ∃ N : St → Hp → Prop, (∀ σ' H', N σ' H' → ∃ m', m' < m ∧ W m' σ' H') ∧ tb { D with nx := N, ct := N, bk := D.nx } σ H := ⟨_, fun _ _ p => p, q⟩
def pQ (i j : Nat) (D : Ends) (σ : St) : List V → Hp → Prop := fun vs H1 => ∃ v w, vs = [v, w] ∧ D.nx ((σ.set i (some v)).set j (some w)) H1
theorem r_par (h : ta σ H (pQ i j D σ)) : tPar i j ta D σ H := h
theorem r_pQ (h : D.nx ((σ.set i (some x)).set j (some y)) H) : pQ i j D σ [x, y] H := ⟨x, y, rfl, h⟩
theorem ix_nat {n i : Nat} (h : i < n) : ixN n (i : Int) = some i := by
  unfold ixN
  rw [if_pos (by omega), if_pos (by omega)]; simp
theorem r_setL {p : Addr} {xs : List V} {i : Nat} {v : V} {H : Hp} {Q : Hp → Prop} (h : H p = some (.lst xs)) (n : i < xs.length) (q : Q (upd H p (.lst (xs.set i v)))) : rSetL (.ref p) (.int (i : Nat)) v H Q := ⟨p, xs, _, i, rfl, rfl, h, ix_nat n, q⟩
theorem r_getL {K : PySem.W.Frag} {p : Addr} {xs : List V} {i : Nat} {v : V} {H : Hp} {Q : VK} (h : SqL K H p xs) (e : xs[i]? = some v) (q : Q v H) : rIxL K (.ref p) (.int (i : Nat)) H Q := ⟨p, xs, _, v, rfl, rfl, h, atI_nat e, q⟩
theorem r_augS {to ti te : TE} {tget : V → V → Hp → VK → Prop} {tip : TIp} {tset : TSet} (h : to σ H fun o H1 => ti σ H1 fun i H2 => tget o i H2 fun x H3 => te σ H3 fun y H4 => tip x y H4 fun z H5 => tset o i z H5 fun H6 => D.nx σ H6) : tAugS to ti te tget tip tset D σ H := h
theorem r_gsub {to ti : TE} {t : TSet} {v : V} {Q : St → Hp → Prop} (h : to σ H fun o H1 => ti σ H1 fun i H2 => t o i v H2 fun H3 => Q σ H3) : gSub to ti t v σ H Q := h
theorem r_sl {r : V → Option Int → Option Int → Hp → VK → Prop} {te : TE} {tl th : TO} {Q : VK} (h : te σ H fun x H1 => tl σ H1 fun l H2 => th σ H2 fun u H3 => r x l u H3 Q) : tSl r te tl th σ H Q := h
theorem r_part {t : TE} {Q : Option Int → Hp → Prop} (h : t σ H fun x H1 => ∃ i, x = .int i ∧ Q (some i) H1) : tPart t σ H Q := h
theorem r_nopart {Q : Option Int → Hp → Prop} (h : Q none H) : tNoPart σ H Q := h
theorem r_parI {n : Int} {P : Int → Prop} (h : P n) : ∃ i, V.int n = .int i ∧ P i := ⟨n, rfl, h⟩
end
section
variable {H : Hp} {Q : VK} {K : PySem.W.Frag} {a b : Addr} {xs ys : List V} {ns : List Int}
theorem r_ixS {k : Sk} {i : Nat} {v : V} (h : k.at K H a xs) (e : xs[i]? = some v) (q : Q v H) : rIxA K (.ref a) (.int (i : Nat)) H Q := by
  cases k with
  | l => exact r_ixL h (atI_nat e) q
  | t => exact r_ixT h (atI_nat e) q
theorem r_lenS {k : Sk} (h : k.at K H a xs) (q : Q (.int xs.length) H) : rLenA K [V.ref a] H Q := by
  cases k with
  | l => exact r_lenL h q
  | t => exact r_lenT h q
theorem Sk.exb {H H' : Hp} {a d : Addr} {xs : List V} (k : Sk) (e : ExB d H H') (n : a ≠ d) (h : k.at K H a xs) : k.at K H' a xs := by
  cases k with
  | l => exact sqL_exb e n h
  | t => exact sqT_exb e n h
theorem cut_map (lo hi : Option Int) : ∃ m n, cutV (ns.map V.int) lo hi = ((ns.drop m).take n).map V.int := ⟨_, _, by
  unfold cutV
  rw [List.map_take, List.map_drop]⟩
theorem r_slL {lo hi : Option Int} (h : SqL K H a xs) (q : ∀ p, H p = none → Q (.ref p) (upd H p (.lst (cutV xs lo hi)))) : rSlcA K (.ref a) lo hi H Q := .inl ⟨a, xs, rfl, h, q⟩
theorem r_catL (h1 : H a = some (.lst xs)) (h2 : H b = some (.lst ys)) (n : xs.length + ys.length ≤ sizeLine) (q : ∀ p, H p = none → Q (.ref p) (upd H p (.lst (xs ++ ys)))) : rAddA K (.ref a) (.ref b) H Q := .inr (.inl ⟨a, b, xs, ys, rfl, rfl, h1, h2, n, q⟩)
end
/-- either way an int -/
theorem r_split {σ : St} {H : Hp} {ta tb : TE} {Q : VK} {p : Prop} [Decidable p] (main : ∀ i : Int, Q (.int i) H) (h1 : p → (∀ i : Int, Q (.int i) H) → ta σ H Q) (h2 : ¬ p → (∀ i : Int, Q (.int i) H) → tb σ H Q) : if decide p = true then ta σ H Q else tb σ H Q :=
  r_D (fun c => h1 c main) (fun c => h2 c main)
/-! ### the dice of the laws -/
/-- the dice at d, rolled n times at most -/
def Dice (n : Nat) (H : Hp) (d : Addr) : Prop := ∃ x y z : Int, H d = some (.lst ([x, y, z].map V.int)) ∧ 0 ≤ x ∧ 0 ≤ y ∧ y < 2147480009 ∧ 0 ≤ z ∧ z ≤ n
theorem Dice.ex {n : Nat} {H H' : Hp} {d : Addr} (e : Ex H H') (h : Dice n H d) : Dice n H' d := by
  obtain ⟨x, y, z, h, r⟩ := h
  exact ⟨x, y, z, e _ _ h, r⟩
theorem Dice.ne {n : Nat} {H : Hp} {d p : Addr} (h : Dice n H d) (q : H p = none) : p ≠ d := fun e => by
  obtain ⟨x, y, z, h, r⟩ := h
  rw [← e, q] at h
  cases h
theorem Dice.exb {n : Nat} {H H' : Hp} {d p : Addr} (h : Dice n H d) (e : ExB d H H') (q : H' p = none) (h' : Dice (n + 1) H' d) : H p = none := by
  cases hp : H p with
  | none => rfl
  | some o =>
    have := e p o (h'.ne q) hp
    rw [q] at this; cases this
theorem Dice.mono {m n : Nat} {H : Hp} {d : Addr} (l : m ≤ n) (h : Dice m H d) : Dice n H d := by
  obtain ⟨x, y, z, h, h1, h2, h3, h4, h5⟩ := h
  exact ⟨x, y, z, h, h1, h2, h3, h4, by omega⟩
end PB

/-! PK: the rules with the frame K named (a comprehension's own scope must not be in the reading). -/
namespace PB
open PySem PySem.Spec L2
open PyProof.Rows hiding St
section
variable {X : Cx} {K : PySem.W.Frag} {j : Nat}
theorem k_lt (eK : X.K = K) (hr : Room j X.A) : OpR X (compareOp .Lt) (rCmpA K (fun i j => decide (i < j)) fun d e => PySem.W.dataLt d e) := by subst eK; exact op_ltA hr
theorem k_gt (eK : X.K = K) (hr : Room j X.A) : OpR X (compareOp .Gt) (rCmpA K (fun i j => decide (j < i)) fun d e => PySem.W.dataLt e d) := by subst eK; exact op_gtA hr
theorem k_le (eK : X.K = K) (hr : Room j X.A) : OpR X (compareOp .LtE) (rCmpA K (fun i j => decide (i ≤ j)) fun d e => !PySem.W.dataLt e d) := by subst eK; exact op_leA hr
theorem k_ge (eK : X.K = K) (hr : Room j X.A) : OpR X (compareOp .GtE) (rCmpA K (fun i j => decide (j ≤ i)) fun d e => !PySem.W.dataLt d e) := by subst eK; exact op_geA hr
theorem k_eq (eK : X.K = K) (hr : Room j X.A) : OpR X (compareOp .Eq) (rEqA K) := by subst eK; exact op_eqA hr
theorem k_ne (eK : X.K = K) (hr : Room j X.A) : OpR X (compareOp .NotEq) (rNeA K) := by subst eK; exact op_neA hr
theorem k_in (eK : X.K = K) (hr : Room j X.A) : OpR X (compareOp .In) (rInA K) := by subst eK; exact op_inA hr
theorem k_nin (eK : X.K = K) (hr : Room j X.A) : OpR X (compareOp .NotIn) (rNinA K) := by subst eK; exact op_ninA hr
theorem k_add (eK : X.K = K) : OpR X (binaryOp .Add) (rAddA K) := by subst eK; exact op_addA
theorem k_sum (eK : X.K = K) (hc : X.calm = true) : CallR X (.builtin "sum") (rSumA K) := by subst eK; exact cr_sumA hc
theorem k_sorted (eK : X.K = K) : CallR X (.builtin "sorted") (rSortedA K) := by subst eK; exact cr_sortedA
theorem k_len (eK : X.K = K) : CallR X (.builtin "len") (rLenA K) := by subst eK; exact cr_len
theorem k_isi (eK : X.K = K) : CallR X (.builtin "isinstance") (rIsi K) := by subst eK; exact call_isi
theorem k_all (eK : X.K = K) (hc : X.calm = true) : CallR X (.builtin "all") (rAll K) := by subst eK; exact cr_all hc
theorem k_any (eK : X.K = K) (hc : X.calm = true) : CallR X (.builtin "any") (rAny K) := by subst eK; exact cr_any hc
theorem k_tuple (eK : X.K = K) : CallR X (.type "tuple") (rTupA K) := by subst eK; exact cr_tuple
theorem k_list (eK : X.K = K) : CallR X (.type "list") (rListA K) := by subst eK; exact cr_list
theorem k_ix (eK : X.K = K) : IxR X (rIxA K) := by subst eK; exact ix_A
theorem k_sl (eK : X.K = K) : SlR X (rSlcA K) := by subst eK; exact sl_A
theorem k_get (eK : X.K = K) : PGet X (rIxL K) := by subst eK; exact get_list
def tTru (K : PySem.W.Frag) (ta : TE) : TT := fun σ H Q => ta σ H fun x H' => ∃ k, TruV K x H' k ∧ Q k H'
theorem k_truth {a : Expr} {ta : TE} (eK : X.K = K) (ha : PE X a ta) (he : ∀ whole, isTrue a X.env whole = (do let v ← whole; standAt a.pos; holding [v] (truthy v))) : PT X a (tTru K ta) := by
  subst eK
  exact pt_truth ha he
theorem k_seq {tg l : Expr} {tl : TE} (eK : X.K = K) (hl : PE X l tl) : PI X tg l (iSeq K tl) := by subst eK; exact pi_seq hl
theorem k_zip {e e2 : Expr} {ta : TA} {p pos tpos : Pos} {elts : List Expr} {kk : Nat} (eK : X.K = K) (hg : Gl X "zip") (hm : X.mg "zip" = none) (ha : PA X [e, e2] ta)
    (hs : starEach [e, e2] X.env = (false, eval e X.env) :: starEach [e2] X.env := by rfl) (hpl : (backTo pos (starEach [e2] X.env)).any (·.1) = false := by rfl) :
    PI X (.Tuple elts kk tpos) (.Call (.Name "zip" p) [e, e2] [] pos) (iZipM K ta) := by
  subst eK
  exact pi_zipM hg hm ha hs hpl
theorem k_enum {e : Expr} {ta : TA} {p pos tpos : Pos} {elts : List Expr} {kk : Nat} (eK : X.K = K) (cl : X.calm = true) (hm : X.mg "enumerate" = none) (ha : PA X [e] ta) (hg : Gl X "enumerate" := by rfl) (hs : starEach [e] X.env = [(false, eval e X.env)] := by rfl) :
    PI X (.Tuple elts kk tpos) (.Call (.Name "enumerate" p) [e] [] pos) (iEnumM K ta) := by
  subst eK
  exact pi_enumM cl hm ha hg hs
theorem k_two {i j kk : Nat} {x y : Str} {px py pos : Pos} (eK : X.K = K) (hN : X.N.Nodup) (hi : X.N[i]? = some x) (hj : X.N[j]? = some y) (lx : Loc X.env.scope x) (ly : Loc X.env.scope y)
    (fx : X.fn x = true ∨ X.env.scope.names.lookup x = some .local) (fy : X.fn y = true ∨ X.env.scope.names.lookup y = some .local) (hc : X.calm = true) : PG X (.Tuple [.Name x px, .Name y py] kk pos) (gTup K 2 (gCons (gName i) (gCons (gName j) gNil))) := by
  subst eK
  exact pg_two hc hN hi hj lx ly fx fy
theorem k_three {i j l kk : Nat} {x y z : Str} {px py pz pos : Pos} (eK : X.K = K) (hN : X.N.Nodup) (hi : X.N[i]? = some x) (hj : X.N[j]? = some y) (hl : X.N[l]? = some z) (lx : Loc X.env.scope x) (ly : Loc X.env.scope y) (lz : Loc X.env.scope z)
    (fx : X.fn x = true ∨ X.env.scope.names.lookup x = some .local) (fy : X.fn y = true ∨ X.env.scope.names.lookup y = some .local) (fz : X.fn z = true ∨ X.env.scope.names.lookup z = some .local) (hc : X.calm = true) : PG X (.Tuple [.Name x px, .Name y py, .Name z pz] kk pos) (gTup K 3 (gCons (gName i) (gCons (gName j) (gCons (gName l) gNil)))) := by
  subst eK
  exact pg_three hc hN hi hj hl lx ly lz fx fy fz
theorem k_tup {es : List Expr} {k n : Nat} {t : TGs} {pos : Pos} (eK : X.K = K) (hc : X.calm = true) (h : PGs X es t) (hn : (assignEach es X.env).length = n := by rfl) (hst : (assignEach es X.env).findIdx? (·.1) = none := by rfl) : PG X (.Tuple es k pos) (gTup K n t) := by
  subst eK
  exact pg_tup hc h hn hst
theorem k_append {o e : Expr} {to te : TE} {apos cpos : Pos} (eK : X.K = K) (ho : PE X o to) (ha : PE X e te) (hbase : attributeBase o "append" X.env (eval o X.env) = eval o X.env := by rfl)
    (hfew : ((backTo cpos (starEach [e] X.env)).all (fun x => !x.1) && (backToKw cpos (keywordEach [] X.env)).all (fun x => x.1.isSome) && decide ([e].length + ([] : List Keyword).length + (if ([] : List Keyword).isEmpty then 0 else 1) < 30)) = true := by rfl)
    (hline : (apos.endLine == cpos.line) = true := by rfl) (hs : starEach [e] X.env = (false, eval e X.env) :: starEach [] X.env := by rfl) :
    PE X (.Call (.Attribute o "append" apos) [e] [] cpos) (tBM K "list" rAppend to (tCons te tNil)) := by
  subst eK
  exact pe_bm PySem.F.plainAttrs_list PySem.F.slot_list_append PySem.F.type_list_append mt_append ho (pa_cons ha pa_nil hs) hbase hfew hline hs rfl
end
section
variable {K : PySem.W.Frag} {σ : St} {H : Hp} {Q : VK} {ta : TE} {a : Addr} {xs : List V} {v : V}
theorem r_tru {Q : Bool → Hp → Prop} (h : ta σ H fun x H' => ∃ k, TruV K x H' k ∧ Q k H') : tTru K ta σ H Q := h
/-- xs.append(v) -/
theorem r_bm {T : String} {r : V → List V → Hp → VK → Prop} {t : TA} (h : ta σ H fun x H1 => tyV K T x H1 ∧ t σ H1 fun xs H2 => r x xs H2 Q) : tBM K T r ta t σ H Q := h
theorem r_app (h : H a = some (.lst xs)) (n : xs.length < sizeLine) (q : Q .non (upd H a (.lst (xs ++ [v])))) : rAppend (.ref a) [v] H Q := ⟨a, xs, v, rfl, rfl, h, n, q⟩
end
end PB

/-! PD: rows of ints as data: ==, !=, in, <, sorted. -/
namespace PB
open PySem PySem.Spec L2
open PyProof.Rows hiding St
section
variable {K : PySem.W.Frag} {H H' : Hp} {a b : Addr} {ns ms : List Int} {Q : VK}
/-- ints as data -/
def dI (ns : List Int) : List PyData := ns.map .int
theorem dp_I : ∀ ns : List Int, DpAll K H (ns.map V.int) (dI ns)
  | [] => .nil
  | n :: ns => .cons (.int n) (dp_I ns)
theorem dp_t (h : SqT K H a (ns.map V.int)) : Dp K H (.ref a) (.tuple (dI ns)) := .tup h (dp_I ns)
theorem dp_l (h : SqL K H a (ns.map V.int)) : Dp K H (.ref a) (.list (dI ns)) := .lst h (dp_I ns)
theorem lay_I : ∀ ns : List Int, PyData.canLayAll0 (dI ns) = true
  | [] => by unfold dI; rw [List.map_nil]; simp only [PyData.canLayAll0]
  | n :: ns => by
    have := lay_I ns
    unfold dI at this ⊢
    rw [List.map_cons]
    simp only [PyData.canLayAll0, PyData.canLay0, this, Bool.and_self]
theorem dep_I : ∀ ns : List Int, PyData.depthAll (dI ns) = 0
  | [] => by unfold dI; rw [List.map_nil]; simp only [PyData.depthAll]
  | n :: ns => by
    have := dep_I ns
    unfold dI at this ⊢
    rw [List.map_cons]
    simp only [PyData.depthAll, PyData.depth, this, Nat.max_self]
theorem sh_of {d : PyData} (h : d.canLay0 = true) (e : d.depth ≤ 64) : SeqAt.shaped d = true := by
  unfold SeqAt.shaped
  rw [h, decide_eq_true e]; rfl
theorem dep_t : PyData.depth (.tuple (dI ns)) = 1 := by simp only [PyData.depth, dep_I]
theorem dep_l : PyData.depth (.list (dI ns)) = 1 := by simp only [PyData.depth, dep_I]
theorem sh_t : SeqAt.shaped (.tuple (dI ns)) = true := sh_of (by simp only [PyData.canLay0, lay_I]) (by rw [dep_t]; decide)
theorem sh_l : SeqAt.shaped (.list (dI ns)) = true := sh_of (by simp only [PyData.canLay0, lay_I]) (by rw [dep_l]; decide)
theorem ali_I : ∀ ns ms : List Int, PySem.W.alikeAll (dI ns) (dI ms) = true
  | [], [] => by unfold dI; simp only [List.map_nil, PySem.W.alikeAll]
  | [], _ :: _ => by unfold dI; simp only [List.map_nil, List.map_cons, PySem.W.alikeAll]
  | _ :: _, [] => by unfold dI; simp only [List.map_nil, List.map_cons, PySem.W.alikeAll]
  | n :: ns, m :: ms => by
    have := ali_I ns ms
    unfold dI at this ⊢
    simp only [List.map_cons, PySem.W.alikeAll, PySem.W.alike, this, Bool.and_self]
theorem eqv_I : ∀ ns ms : List Int, PyData.eqvAll (dI ns) (dI ms) = decide (ns = ms)
  | [], [] => by unfold dI; simp only [List.map_nil, PyData.eqvAll, decide_true]
  | [], _ :: _ => by unfold dI; simp only [List.map_nil, List.map_cons, PyData.eqvAll]; rfl
  | _ :: _, [] => by unfold dI; simp only [List.map_nil, List.map_cons, PyData.eqvAll]; rfl
  | n :: ns, m :: ms => by
    have := eqv_I ns ms
    unfold dI at this ⊢
    simp only [List.map_cons, PyData.eqvAll, PyData.eqv, this]
    by_cases h1 : n = m <;> by_cases h2 : ns = ms <;> simp [h1, h2]
theorem lt_I (ns ms : List Int) : PySem.W.dataLt (.list (dI ns)) (.list (dI ms)) = decide (ns < ms) := by
  rw [PySem.W.dataLt_list]
  exact PySem.W.dataLt_ints ns ms
theorem lt_T (ns ms : List Int) : PySem.W.dataLt (.tuple (dI ns)) (.tuple (dI ms)) = decide (ns < ms) := by
  rw [PySem.W.dataLt_tuple]
  exact PySem.W.dataLt_ints ns ms
/-- two lists of ints compared -/
theorem r_gtLL (h1 : SqL K H a (ns.map V.int)) (h2 : SqL K H b (ms.map V.int)) (q : Q (.bl (decide (ms < ns))) H) : rCmpA K (fun i j => decide (j < i)) (fun d e => PySem.W.dataLt e d) (.ref a) (.ref b) H Q :=
  .inr ⟨_, _, dp_l h1, dp_l h2, by simp only [PySem.W.alike]; exact ali_I ns ms, (fun e => nomatch e), by rw [dep_l, dep_l]; decide, by rw [← lt_I] at q; exact q⟩
theorem r_ltTT (h1 : SqT K H a (ns.map V.int)) (h2 : SqT K H b (ms.map V.int)) (q : Q (.bl (decide (ns < ms))) H) : rCmpA K (fun i j => decide (i < j)) (fun d e => PySem.W.dataLt d e) (.ref a) (.ref b) H Q :=
  .inr ⟨_, _, dp_t h1, dp_t h2, by simp only [PySem.W.alike]; exact ali_I ns ms, (fun e => nomatch e), by rw [dep_t, dep_t]; decide, by rw [← lt_T] at q; exact q⟩
theorem r_eqTT (h1 : SqT K H a (ns.map V.int)) (h2 : SqT K H b (ms.map V.int)) (q : Q (.bl (decide (ns = ms))) H) : rEqA K (.ref a) (.ref b) H Q :=
  .inr ⟨_, _, dp_t h1, dp_t h2, sh_t, sh_t, by simp only [PyData.eqv, eqv_I]; exact q⟩
theorem r_neTT (h1 : SqT K H a (ns.map V.int)) (h2 : SqT K H b (ms.map V.int)) (q : Q (.bl (!decide (ns = ms))) H) : rNeA K (.ref a) (.ref b) H Q :=
  .inr ⟨_, _, dp_t h1, dp_t h2, sh_t, sh_t, by simp only [PyData.eqv, eqv_I]; exact q⟩
theorem r_eqLL (h1 : SqL K H a (ns.map V.int)) (h2 : SqL K H b (ms.map V.int)) (q : Q (.bl (decide (ns = ms))) H) : rEqA K (.ref a) (.ref b) H Q :=
  .inr ⟨_, _, dp_l h1, dp_l h2, sh_l, sh_l, by simp only [PyData.eqv, eqv_I]; exact q⟩
theorem r_neLL (h1 : SqL K H a (ns.map V.int)) (h2 : SqL K H b (ms.map V.int)) (q : Q (.bl (!decide (ns = ms))) H) : rNeA K (.ref a) (.ref b) H Q :=
  .inr ⟨_, _, dp_l h1, dp_l h2, sh_l, sh_l, by simp only [PyData.eqv, eqv_I]; exact q⟩
theorem r_sortedL {H : Hp} (h : SqL K H a (ns.map V.int)) (q : ∀ (ns' : List Int) (p : Addr), ns'.Perm ns → ns'.Pairwise (· ≤ ·) → H p = none → Q (.ref p) (upd H p (.lst (ns'.map V.int)))) : rSortedA K [V.ref a] H Q := .inl ⟨a, ns, rfl, h, q⟩
theorem r_sortedT {H : Hp} (h : SqT K H a (ns.map V.int)) (q : ∀ (ns' : List Int) (p : Addr), ns'.Perm ns → ns'.Pairwise (· ≤ ·) → H p = none → Q (.ref p) (upd H p (.lst (ns'.map V.int)))) : rSortedA K [V.ref a] H Q := .inr ⟨a, ns, rfl, h, q⟩
/-! ### rows: values that are tuples of ints -/
def Row (K : PySem.W.Frag) (H : Hp) (v : V) (r : List Int) : Prop := ∃ p, v = .ref p ∧ SqT K H p (r.map V.int)
/-- these values are these rows -/
inductive Rws (K : PySem.W.Frag) (H : Hp) : List V → List (List Int) → Prop
  | nil : Rws K H [] []
  | cons {v : V} {vs : List V} {r : List Int} {rs : List (List Int)} : Row K H v r → Rws K H vs rs → Rws K H (v :: vs) (r :: rs)
theorem Row.ex {v : V} {r : List Int} (e : Ex H H') (h : Row K H v r) : Row K H' v r := by
  obtain ⟨p, rfl, h⟩ := h
  exact ⟨p, rfl, sqT_ex e h⟩
theorem Rws.ex {vs : List V} {rs : List (List Int)} (e : Ex H H') (h : Rws K H vs rs) : Rws K H' vs rs := by
  induction h with
  | nil => exact .nil
  | cons h _ ih => exact .cons (h.ex e) ih
/-- the rows stay where another object changes -/
theorem Row.put {v : V} {r : List Int} {d : Addr} {xs : List V} {o : HO} (hd : H d = some (.lst xs)) (h : Row K H v r) : Row K (upd H d o) v r := by
  obtain ⟨p, rfl, h⟩ := h
  refine ⟨p, rfl, ?_⟩
  rcases h with (h | ⟨o', h⟩) | h
  · exact .inl (.inl ((upd_ne (fun e => by rw [e, hd] at h; cases h)).trans h))
  · exact .inl (.inr ⟨o', (upd_ne (fun e => by rw [e, hd] at h; cases h)).trans h⟩)
  · exact .inr h
theorem Rws.put {vs : List V} {rs : List (List Int)} {d : Addr} {xs : List V} {o : HO} (hd : H d = some (.lst xs)) (h : Rws K H vs rs) : Rws K (upd H d o) vs rs := by
  induction h with
  | nil => exact .nil
  | cons h _ ih => exact .cons (h.put hd) ih
theorem Rws.snoc {vs : List V} {rs : List (List Int)} {v : V} {r : List Int} (h : Rws K H vs rs) (k : Row K H v r) : Rws K H (vs ++ [v]) (rs ++ [r]) := by
  induction h with
  | nil => exact .cons k .nil
  | cons h _ ih => exact .cons h ih
theorem Rws.length {vs : List V} {rs : List (List Int)} (h : Rws K H vs rs) : vs.length = rs.length := by
  induction h with
  | nil => rfl
  | cons _ _ ih => rw [List.length_cons, List.length_cons, ih]
theorem Rws.get {vs : List V} {rs : List (List Int)} (h : Rws K H vs rs) : ∀ {i : Nat} {v : V}, vs[i]? = some v → ∃ r, rs[i]? = some r ∧ Row K H v r := by
  induction h with
  | nil => intro i v e; cases e
  | cons h _ ih =>
    intro i v e
    cases i with
    | zero => cases e; exact ⟨_, rfl, h⟩
    | succ i => exact ih (by simpa using e)
theorem Rws.dp {vs : List V} {rs : List (List Int)} (h : Rws K H vs rs) : DpAll K H vs (rs.map fun r => .tuple (dI r)) := by
  induction h with
  | nil => exact .nil
  | cons h _ ih =>
    obtain ⟨p, rfl, h⟩ := h
    exact .cons (dp_t h) ih
theorem lay_R : ∀ rs : List (List Int), PyData.canLayAll0 (rs.map fun r => .tuple (dI r)) = true
  | [] => by rw [List.map_nil]; simp only [PyData.canLayAll0]
  | r :: rs => by rw [List.map_cons]; simp only [PyData.canLayAll0, PyData.canLay0, lay_R rs, lay_I, Bool.and_self]
theorem dep_R : ∀ rs : List (List Int), PyData.depthAll (rs.map fun r => .tuple (dI r)) ≤ 1
  | [] => by rw [List.map_nil]; simp only [PyData.depthAll]; decide
  | r :: rs => by
    have := dep_R rs
    rw [List.map_cons]
    simp only [PyData.depthAll, PyData.depth, dep_I]
    omega
theorem sh_R {rs : List (List Int)} : SeqAt.shaped (.list (rs.map fun r => .tuple (dI r))) = true :=
  sh_of (by simp only [PyData.canLay0, lay_R]) (by simp only [PyData.depth]; have := dep_R rs; omega)
theorem any_R (r : List Int) : ∀ rs : List (List Int), ((rs.map fun r => PyData.tuple (dI r)).any fun z => PyData.eqv z (.tuple (dI r))) = decide (r ∈ rs)
  | [] => rfl
  | s :: rs => by
    rw [List.map_cons, List.any_cons, any_R r rs]
    simp only [PyData.eqv, eqv_I]
    by_cases h1 : s = r
    · subst h1; simp
    · by_cases h2 : r ∈ rs
      · simp [h2]
      · have h3 : ¬ r = s := fun e => h1 e.symm
        simp [h1, h2, h3]
/-- a row not in a list of rows -/
theorem r_ninR {vs : List V} {rs : List (List Int)} (h1 : SqT K H a (ns.map V.int)) (h2 : SqL K H b vs) (h3 : Rws K H vs rs) (q : Q (.bl (!decide (ns ∈ rs))) H) : rNinA K (.ref a) (.ref b) H Q :=
  .inr ⟨_, _, dp_t h1, .lst h2 h3.dp, sh_t, sh_R, by rw [any_R]; exact q⟩
theorem r_inR {vs : List V} {rs : List (List Int)} (h1 : SqT K H a (ns.map V.int)) (h2 : SqL K H b vs) (h3 : Rws K H vs rs) (q : Q (.bl (decide (ns ∈ rs))) H) : rInA K (.ref a) (.ref b) H Q :=
  .inr ⟨_, _, dp_t h1, .lst h2 h3.dp, sh_t, sh_R, by rw [any_R]; exact q⟩
/-- two lists without an item -/
theorem r_ne00 (h1 : SqL K H a []) (h2 : SqL K H b []) (q : Q (.bl false) H) : rNeA K (.ref a) (.ref b) H Q := r_neLL (ns := []) (ms := []) h1 h2 q
theorem r_eq00 (h1 : SqL K H a []) (h2 : SqL K H b []) (q : Q (.bl true) H) : rEqA K (.ref a) (.ref b) H Q := r_eqLL (ns := []) (ms := []) h1 h2 q
/-- a tuple and a tuple of one or more -/
theorem r_catT {xs ys : List V} (h1 : SqT K H a xs) (h2 : SqT K H b ys) (n : xs.length + ys.length ≤ sizeLine) (q : ∀ p H', Ex H H' → SqT K H' p (xs ++ ys) → Q (.ref p) H') : rAddA K (.ref a) (.ref b) H Q :=
  .inr (.inr (.inl ⟨a, b, xs, ys, rfl, rfl, h1, h2, n, fun e => by subst e; exact q b H (Ex.refl H) h2, fun _ e => by subst e; rw [List.append_nil] at q; exact q a H (Ex.refl H) h1, fun _ _ p hp => q p _ (Ex.new hp) sqT_new⟩))
theorem r_slT {xs : List V} {lo hi : Option Int} (h : SqT K H a xs) (q : ∀ p H', Ex H H' → SqT K H' p (cutV xs lo hi) → Q (.ref p) H') : rSlcA K (.ref a) lo hi H Q := by
  refine .inr (.inl ⟨a, xs, rfl, h, fun ⟨e1, e2⟩ => q a H (Ex.refl H) ?_, fun _ p hp => q p _ (Ex.new hp) sqT_new⟩)
  have e : cutV xs lo hi = xs := by
    unfold cutV
    rw [e1, e2]
    simp
  rw [e]; exact h
end
/-- rows that pass a test -/
theorem c_rows {σ : St} {H : Hp} {Q : VK} {K : PySem.W.Frag} {tt : TT} {te : TE} {vs : List Nat} {a : Addr} {ws : List V} {rs : List (List Int)} {j : Nat} (h : SqL K H a ws) (hr : Rws K H ws rs) (f : List Int → Bool) (hn : ws.length < 16000000) (hw : ∀ x, wipe ((wipe σ vs).set j (some x)) vs = wipe σ vs)
    (turn : ∀ v r H1 (q : VK) (N : Hp → Prop), r ∈ rs → Ex H H1 → Row K H1 v r → (f r = true → ∀ H4, Ex H1 H4 → q v H4) → (f r = false → ∀ H4, Ex H1 H4 → N H4) → tt ((wipe σ vs).set j (some v)) H1 fun b H4 => if b = true then te ((wipe σ vs).set j (some v)) H4 q else N H4)
    (done : ∀ L H' us, H L = none → Ex H H' → H' L = some (.lst us) → Rws K H' us (rs.filter f) → Q (.ref L) H') : sQ K (CQ (gName j) tt te vs σ Q) (.ref a) H := by
  refine s_L h (c_it walk_list hn (fun H' e => sqL_ex e h) (fun i acc H' => Rws K H' acc ((rs.take i).filter f)) (fun _ _ => by rw [List.take_zero, List.filter_nil]; exact .nil) (fun L i acc H1 u u' hL _ p => p.put hL) ?_ ?_)
  · rintro i x acc H1 H2 q N hi e1 p ⟨rfl, hx⟩ hq hN
    obtain ⟨r, er, rw'⟩ := hr.get hx
    have tk : rs.take (i + 1) = rs.take i ++ [r] := by rw [List.take_add_one, er]; rfl
    refine ⟨hw x, turn x r H2 q N (List.mem_of_getElem? er) e1 (rw'.ex e1) (fun fy H4 e4 => hq x H4 e4 ?_) fun fn H4 e4 => hN H4 e4 ?_⟩
    · rw [tk, List.filter_append, List.filter_cons_of_pos fy, List.filter_nil]
      exact (p.ex e4).snoc ((rw'.ex e1).ex e4)
    · rw [tk, List.filter_append, List.filter_cons_of_neg (by rw [fn]; decide), List.filter_nil, List.append_nil]
      exact p.ex e4
  · intro L acc H' h1 h2 h3 _ h5
    rw [List.take_of_length_le (Nat.le_of_eq hr.length.symm)] at h5
    exact done L H' acc h1 h2 h3 h5
/-- a row of rolls -/
theorem c_dice {σ : St} {H : Hp} {Q : VK} {tt : TT} {te : TE} {vs : List Nat} {j n m : Nat} {lo t : Int} {d : Addr} (hd : Dice n H d) (hm : m < 16000000) (hw : ∀ x, wipe ((wipe σ vs).set j (some x)) vs = wipe σ vs)
    (turn : ∀ (i : Nat) H1 (q : VK) (N : Hp → Prop), i < m → ExB d H H1 → Dice (n + i) H1 d → (∀ r H4, 0 ≤ r → r < t → ExB d H1 H4 → Dice (n + i + 1) H4 d → q (.int r) H4) →
      tt ((wipe σ vs).set j (some (.int (lo + i)))) H1 fun b H4 => if b = true then te ((wipe σ vs).set j (some (.int (lo + i)))) H4 q else N H4)
    (done : ∀ L H' (ns : List Int), H L = none → L ≠ d → ExB d H H' → H' L = some (.lst (ns.map V.int)) → ns.length = m → (∀ x ∈ ns, 0 ≤ x ∧ x < t) → Dice (n + m) H' d → Q (.ref L) H') : CQ (gName j) tt te vs σ Q (Itr lo m) H := by
  intro L hL
  have ne : L ≠ d := hd.ne hL
  refine lc_it walk_range (fun i H' => ∃ ns : List Int, ExB d H H' ∧ H' L = some (.lst (ns.map V.int)) ∧ ns.length = i ∧ (∀ x ∈ ns, 0 ≤ x ∧ x < t) ∧ Dice (n + i) H' d) ⟨[], ExB.of (Ex.new hL), upd_same, rfl, (fun x hx => nomatch hx), hd.ex (Ex.new hL)⟩ (fun _ _ _ _ => trivial) ?_ ?_
  · rintro i x H1 H2 hi ⟨ns, e1, e2, e3, e4, e5⟩ ⟨rfl, rfl⟩
    refine ⟨hw _, turn i H2 _ _ hi e1 e5 fun r H4 r0 r1 e6 e7 => ?_⟩
    have hL4 : H4 L = some (.lst (ns.map V.int)) := e6 _ _ ne e2
    refine ⟨ns.map V.int, hL4, by rw [List.length_map]; exact Nat.lt_trans (by omega : ns.length < 16000000) (by decide), ns ++ [r], ?_, by rw [upd_same, List.map_append]; rfl, by rw [List.length_append, e3]; rfl, ?_, ?_⟩
    · intro b o hb ho
      have hne : b ≠ L := fun z => by rw [z, hL] at ho; cases ho
      exact (upd_ne hne).trans (e6 _ _ hb (e1 b o hb ho))
    · intro y hy
      rw [List.mem_append, List.mem_singleton] at hy
      rcases hy with hy | rfl
      · exact e4 y hy
      · exact ⟨r0, r1⟩
    · obtain ⟨x, y, z, h, r⟩ := e7
      exact ⟨x, y, z, (upd_ne (Ne.symm ne)).trans h, r⟩
  · rintro H' ⟨ns, e1, e2, e3, e4, e5⟩
    exact done L H' ns hL ne e1 e2 e3 e4 e5
theorem cut_lo {xs : List V} {i : Nat} : cutV xs none (some (i : Int)) = xs.take i := by
  unfold cutV
  rw [HT.sIx_none, HT.sIx_nat, Nat.sub_zero, List.drop_zero, List.take_eq_take_iff]
  omega
theorem cut_hi {xs : List V} {i : Nat} : cutV xs (some (i : Int)) none = xs.drop i := by
  unfold cutV
  rw [HT.sIx_none, HT.sIx_nat]
  by_cases h : i ≤ xs.length
  · rw [Nat.min_eq_left h, List.take_of_length_le (by rw [List.length_drop]; exact Nat.le_refl _)]
  · rw [Nat.min_eq_right (by omega), List.drop_eq_nil_of_le (Nat.le_refl _), List.drop_eq_nil_of_le (by omega), List.take_nil]
theorem Dice.fresh {n : Nat} {H : Hp} {d p : Addr} {o : HO} (h : Dice n H d) (hp : H p = none) : Dice n (upd H p o) d := h.ex (Ex.new hp)
end PB
namespace K62
open PySem PySem.Spec PyProof.Rows L2
def top (i : Nat) : Stmt := PySem.Challenge.pw_promisedpost_k62_whole_shares_are_fair.main.body.getD i (.Pass ⟨0, 0, 0, 0⟩)
def dd (x : Str) (i : Nat) : He.DefD := ⟨(x, none), x, x, defArgs (top i), defBody (top i), defScope (top i), [], []⟩
def fn : List He.DefD := [dd "is_integer" 4, dd "is_in" 5, dd "demand" 6, dd "are_amounts" 10, dd "level_of" 11, dd "dealt" 12, dd "_law_dice" 14, dd "_law_roll" 15, dd "_law_pick" 16, dd "_law_tuples" 17, dd "_law_with_ask" 18, dd "_law_right" 19, dd "law" 20]
def fa : List He.Fa := [.glo "is_integer", .glo "is_in", .glo "demand", .glo "are_amounts", .glo "level_of", .glo "dealt", .glo "_law_dice", .glo "_law_roll", .glo "_law_pick", .glo "_law_tuples", .glo "_law_with_ask", .glo "_law_right", .glo "law", .free "ValueError", .free "all", .free "enumerate", .free "tuple", .free "range", .free "isinstance", .free "int", .free "sum", .free "min", .free "max", .free "len", .free "bool", .free "zip", .free "abs", .free "super", .free "sorted", .int "MOST_DEALT" (10000), .int "MOST_CLIENTS" (12)]
abbrev R : PySem.W.OpenRow := PySem.W.OpenLaw.row PySem.Challenge.rw_promisedpost_k62_whole_shares_are_fair
abbrev qv : PySem.Program := PySem.W.view R.prog [20]
def names : List PySem.Str := ["PostError", "BadArgument", "is_integer", "is_in", "demand", "MOST_DEALT", "MOST_CLIENTS", "are_amounts", "level_of", "dealt", "_law_dice", "_law_roll", "_law_pick", "_law_tuples", "_law_with_ask", "_law_right", "__name__"]
abbrev hk : PySem.W.Hook := He.hookX 5 fa fn [] [] (fun _ => true)
def ob (s : PySem.W.SharedT) : He.AlX := He.obsX 5 fa fn [] [] (fun _ => true) (HandSHeadRun.getT s)
theorem ob_eq (s : PySem.W.SharedT) : ob s = hk.obs s.abs := He.obsX_eq (HandSHeadRun.getT_eq s)
theorem run (w : World) : HandSHeadRun.RunEq R qv hk ob 1000 names w := by
  intro os
  kernel_rfl
end K62

section
open PySem PySem.Spec L2 PB
open PyProof.Rows hiding St
local macro_rules | `(tactic| walk_at "ex") => `(tactic| first
  | with_reducible exact Ex.refl _
  | assumption
  | (with_reducible refine Ex.add ?_ (by assumption); walk_at "ex")
  | (with_reducible refine Ex.trans ?_ (by assumption); walk_at "ex"))
local macro_rules | `(tactic| walk_at "hl") => `(tactic| first
  | assumption
  | with_reducible exact sqL_new
  | with_reducible exact sqT_new
  | with_reducible exact upd_same
  | (with_reducible refine sqL_up (by assumption) ?_; walk_at "hl")
  | (with_reducible refine sqT_up (by assumption) ?_; walk_at "hl")
  | (with_reducible refine at_up (by assumption) ?_; walk_at "hl")
  | (with_reducible refine sqL_ex (by assumption) ?_; walk_at "hl")
  | (with_reducible refine sqT_ex (by assumption) ?_; walk_at "hl")
  | (with_reducible refine at_ex (by assumption) ?_; walk_at "hl"))
local macro_rules | `(tactic| walk_at "rd") => `(tactic| first
  | with_reducible refine r_var (by first | rfl | with_unfolding_all rfl) ?_
  | with_reducible refine r_c ?_
  | with_reducible refine r_op ?_
  | with_reducible refine r_cons ?_
  | with_reducible refine r_nil ?_
  | with_reducible refine r_seq ?_
  | with_reducible refine r_set ?_
  | with_reducible refine r_next ?_
  | with_reducible refine r_brk ?_
  | with_reducible refine r_cont ?_
  | with_reducible refine r_ret ?_
  | with_reducible refine r_ifS ?_
  | with_reducible refine r_test ?_
  | with_reducible refine r_B ?_
  | with_reducible refine r_bl ?_
  | with_reducible refine r_andV ?_
  | with_reducible refine r_orV ?_
  | with_reducible refine r_notV ?_
  | with_reducible refine r_and ?_
  | with_reducible refine r_or ?_
  | with_reducible refine r_not ?_
  | with_reducible refine r_if ?_
  | with_reducible refine r_chain ?_
  | with_reducible refine r_callB ?_
  | with_reducible refine r_call ?_
  | with_reducible refine r_addI ?_
  | with_reducible refine r_cmpI ?_
  | with_reducible refine r_eqI ?_
  | with_reducible refine r_neI ?_
  | with_reducible refine r_I0 ?_
  | with_reducible refine r_max2 ?_
  | with_reducible refine r_min2 ?_
  | with_reducible refine r_int1 ?_
  | with_reducible refine r_for ?_
  | with_reducible refine r_lc ?_
  | with_reducible refine r_iSeq ?_
  | with_reducible refine r_iZip ?_
  | with_reducible refine r_iEnum ?_
  | with_reducible refine r_iRng1 ?_
  | with_reducible refine r_iRng2 ?_
  | with_reducible refine r_truB ?_
  | with_reducible refine r_yes ?_
  | with_reducible refine r_tru ?_
  | with_reducible refine r_bm ?_
  | with_reducible refine r_asg ?_
  | with_reducible refine r_gname ?_
  | with_reducible refine r_drop ?_
  | with_reducible refine r_aug (by first | rfl | with_unfolding_all rfl) ?_
  | with_reducible refine r_augS ?_
  | with_reducible refine r_ipI ?_
  | with_reducible refine r_gsub ?_
  | with_reducible refine r_sl ?_
  | with_reducible refine r_part ?_
  | with_reducible refine r_nopart ?_
  | with_reducible refine r_parI ?_
  | with_reducible refine r_tup ?_
  | with_reducible refine r_lst ?_
  | with_reducible refine r_par ?_
  | with_reducible refine r_pQ ?_
  | with_reducible refine r_un ?_
  | with_reducible refine r_U ?_
  | refine r_T rfl ?_
  | refine r_F rfl ?_)

namespace K62
abbrev Cx0 := Ct fa fn
section
variable {P : Program} {w : World} {K : PySem.W.Frag} {mg : Str → Option Value} {base : Heap}
abbrev s_is_integer : Stmt := top 4
theorem sc_is_integer : FnScope ["value"] ["value"] (defScope s_is_integer) := ⟨rfl, rfl, rfl, by decide +kernel, rfl, by decide +kernel, by decide +kernel⟩
def sp_is_integer (K : PySem.W.Frag) : Sp := fun vs H Q _ => ∃ v T, vs = [v] ∧ IsTy K H v T ∧ Q (.bl (isIntV v)) H
theorem ok_is_integer (C : Cx0 K mg base) : Cal P w K mg base 1 "is_integer" ["value"] (sp_is_integer K) := by
  refine C.cal 0 0 rfl rfl sc_is_integer (fun _ _ _ _ _ _ us hl => match us, hl with | [_], _ => rfl) (fun vs H Q E h => ?_) (fun f cdv A outer s H vs Q E hr h => ⟨_, PSs.nox
    (pss_one (ps_ret (pe_and (pe_bi (k_isi (K := K) rfl) (C.free 18) (by decide +kernel) (pa_cons (pv 0) (pa_cons (pe_ty "int" (C.free 19)) pa_nil))) (pe_one (pe_not (pe_bi (k_isi (K := K) rfl) (C.free 18) (by decide +kernel) (pa_cons (pv 0) (pa_cons (pe_ty "bool" (C.free 24)) pa_nil)))))))), ?_⟩)
  · obtain ⟨v, T, rfl, _⟩ := h
    rfl
  · obtain ⟨v, T, rfl, ty, k⟩ := h
    repeat walk_at "rd"
    rcases ty.cases with ⟨rfl, rfl⟩ | ⟨b, rfl, rfl⟩ | ⟨i, rfl, rfl⟩ | ⟨x, rfl, rfl⟩ | ⟨a, rfl, ht⟩
    · exact r_isi (b := false) ty rfl ⟨false, rfl, k⟩
    · refine r_isi (b := true) ty rfl ⟨true, rfl, ?_⟩
      repeat walk_at "rd"
      exact r_isi (b := true) ty rfl ⟨true, rfl, k⟩
    · refine r_isi (b := true) ty rfl ⟨true, rfl, ?_⟩
      repeat walk_at "rd"
      exact r_isi (b := false) ty rfl ⟨false, rfl, k⟩
    · exact r_isi (b := false) ty rfl ⟨false, rfl, k⟩
    · simp only [List.mem_cons, List.not_mem_nil, or_false] at ht
      rcases ht with rfl | rfl | rfl <;> exact r_isi (b := false) ty rfl ⟨false, rfl, k⟩
abbrev s_is_in : Stmt := top 5
theorem sc_is_in : FnScope ["value", "low", "high"] ["value", "low", "high"] (defScope s_is_in) := ⟨rfl, rfl, rfl, by decide +kernel, rfl, by decide +kernel, by decide +kernel⟩
def inB (lo hi : Int) : V → Bool
  | .int i => decide (lo ≤ i) && decide (i ≤ hi)
  | _ => false
theorem inB_yes {lo hi i : Int} (h1 : lo ≤ i) (h2 : i ≤ hi) : inB lo hi (.int i) = true := by
  show (decide (lo ≤ i) && decide (i ≤ hi)) = _
  rw [decide_eq_true h1, decide_eq_true h2]; rfl
def sp_is_in (K : PySem.W.Frag) : Sp := fun vs H Q _ => ∃ v T lo hi, vs = [v, .int lo, .int hi] ∧ IsTy K H v T ∧ Q (.bl (inB lo hi v)) H
theorem ok_is_in (C : Cx0 K mg base) : Cal P w K mg base 2 "is_in" ["value", "low", "high"] (sp_is_in K) := by
  have c_is_integer := ok_is_integer (P := P) (w := w) C
  refine C.cal 1 1 rfl rfl sc_is_in (fun _ _ _ _ _ _ us hl => match us, hl with | [_, _, _], _ => rfl) (fun vs H Q E h => ?_) (fun f cdv A outer s H vs Q E hr h => ⟨_, PSs.nox
    (pss_one (ps_ret (pe_and (pe_f c_is_integer hr (by decide) passL (pa_cons (pv 0) pa_nil)) (pe_one (pe_chain (k_le (K := K) rfl hr) (k_le (K := K) rfl hr) (pv 1) (pv 0) (pv 2)))))), ?_⟩)
  · obtain ⟨v, T, lo, hi, rfl, _⟩ := h
    rfl
  · obtain ⟨v, T, lo, hi, rfl, ty, k⟩ := h
    repeat walk_at "rd"
    refine ⟨v, T, rfl, ty, ?_⟩
    cases v with
    | int i =>
      repeat walk_at "rd"
      by_cases c : lo ≤ i
      · refine r_T (decide_eq_true c) ?_
        repeat walk_at "rd"
        have e : inB lo hi (.int i) = decide (i ≤ hi) := by
          show (decide (lo ≤ i) && decide (i ≤ hi)) = _
          rw [decide_eq_true c, Bool.true_and]
        rw [e] at k
        exact k
      · refine r_F (decide_eq_false c) ?_
        have e : inB lo hi (.int i) = false := by
          show (decide (lo ≤ i) && decide (i ≤ hi)) = _
          rw [decide_eq_false c, Bool.false_and]
        rw [e] at k
        exact k
    | _ => exact ⟨false, rfl, k⟩
abbrev s_demand : Stmt := top 6
theorem sc_demand : FnScope ["is_good", "name"] ["is_good", "name"] (defScope s_demand) := ⟨rfl, rfl, rfl, by decide +kernel, rfl, by decide +kernel, by decide +kernel⟩
def sp_demand : Sp := fun vs H Q _ => ∃ n, vs = [.bl true, .str n] ∧ Q .non H
theorem ok_demand (C : Cx0 K mg base) : Cal P w K mg base 1 "demand" ["is_good", "name"] sp_demand := by
  refine C.cal 2 2 rfl rfl sc_demand (fun _ _ _ _ _ _ us hl => match us, hl with | [_, _], _ => rfl) (fun vs H Q E h => ?_) (fun f cdv A outer s H vs Q E hr h => ⟨_, PSs.nox
    (pss_one (ps_if (pt_not (k_truth (K := K) rfl (pv 0) (by intro _; rfl))) (pss_one ps_never) pss_nil)), ?_⟩)
  · obtain ⟨n, rfl, _⟩ := h
    rfl
  · obtain ⟨n, rfl, k⟩ := h
    repeat walk_at "rd"
    exact k
abbrev s_are_amounts : Stmt := top 10
theorem sc_are_amounts : FnScope ["value", "amount"] ["value"] (defScope s_are_amounts) := ⟨rfl, rfl, rfl, by decide +kernel, rfl, by decide +kernel, by decide +kernel⟩
def okAm (ns : List Int) : Prop := 1 ≤ ns.length ∧ ns.length ≤ 12 ∧ ∀ n ∈ ns, 0 ≤ n ∧ n ≤ 10000
def sp_are_amounts (K : PySem.W.Frag) : Sp := fun vs H Q _ => ∃ a ns, vs = [.ref a] ∧ SqT K H a (ns.map V.int) ∧ okAm ns ∧ ∀ H', Ex H H' → Q (.bl true) H'
theorem ok_are_amounts (C : Cx0 K mg base) : Cal P w K mg base 3 "are_amounts" ["value"] (sp_are_amounts K) := by
  have c_is_in := ok_is_in (P := P) (w := w) C
  refine C.cal 3 3 rfl rfl sc_are_amounts (fun _ _ _ _ _ _ us hl => match us, hl with | [_], _ => rfl) (fun vs H Q E h => ?_) (fun f cdv A outer s H vs Q E hr h => ⟨_, PSs.nox
    (pss_cons (ps_if (PW.pt (pw_or (pt_not (k_truth (K := K) rfl (pe_bi (k_isi (K := K) rfl) (C.free 18) (by decide +kernel) (pa_cons (pv 0) (pa_cons (pe_ty "tuple" (C.free 16)) pa_nil))) (by intro _; rfl))) (pw_or1 (pt_not (pt_chain (k_le (K := K) rfl hr) (k_le (K := K) rfl hr) pe_int (pe_bi (k_len (K := K) rfl) (C.free 23) (by decide +kernel) (pa_cons (pv 0) pa_nil)) (pe_gi (C.int 30))))))) (pss_one (ps_ret pe_bl)) pss_nil)
      (pss_one (ps_ret (pe_bi (k_all (K := K) rfl rfl) (C.free 14) (by decide +kernel) (pa_cons (pe_lc (own := [("amount", 1)]) rfl sc_are_amounts.nd (k_seq (K := K) rfl (pv 0)) (blkOk_by (N := ["value", "amount"]) (sc := defScope s_are_amounts) (by decide +kernel)) (fun _ _ _ _ _ => (pg_name (i := 1) sc_are_amounts.nd rfl (Or.inl rfl))) (fun _ _ _ _ _ => pts_nil) (fun _ _ _ _ _ => (pe_f c_is_in hr (by decide) passL (pa_cons (pv 1) (pa_cons pe_int (pa_cons (pe_gi (C.int 29)) pa_nil)))))) pa_nil))))), ?_⟩)
  · obtain ⟨a, ns, rfl, _⟩ := h
    rfl
  · obtain ⟨a, ns, rfl, ht, ⟨n1, n2, n3⟩, k⟩ := h
    repeat walk_at "rd"
    refine r_isT ht ?_
    repeat walk_at "rd"
    refine r_lenTI ht ?_
    repeat walk_at "rd"
    refine r_T (decide_eq_true (by omega)) ?_
    repeat walk_at "rd"
    refine r_F (by rw [decide_eq_true (by omega)]; rfl) ?_
    repeat walk_at "rd"
    refine c_seq (k := .t) ht (fun _ => some (.bl true)) (by rw [List.length_map]; omega) (fun H' e => sqT_ex e ht) (fun x => rfl) ?_ ?_
    · intro x H1 q N hx e1 hq hN
      obtain ⟨n, hn, rfl⟩ := List.mem_map.mp hx
      have bd := n3 n hn
      repeat walk_at "rd"
      refine ⟨.int n, "int", 0, 10000, rfl, .int n, ?_⟩
      rw [inB_yes bd.1 bd.2]
      exact hq _ _ rfl (Ex.refl _)
    · intro L H' hL e1 hl
      have e2 : (ns.map V.int).filterMap (fun _ => some (V.bl true)) = (ns.map fun _ => true).map V.bl := by
        rw [List.filterMap_map, List.map_map]
        exact congrFun List.filterMap_eq_map ns
      rw [e2] at hl
      repeat walk_at "rd"
      refine r_all (sqL_of hl) ?_
      have e3 : (ns.map fun _ => true).all id = true := by simp
      rw [e3]
      exact k _ e1
end
end K62

namespace K62
section
variable {P : Program} {w : World} {K : PySem.W.Frag} {mg : Str → Option Value} {base : Heap}
abbrev s_level_of : Stmt := top 11
theorem sc_level_of : FnScope ["got", "asks", "left", "low", "high", "middle", "needed", "have", "ask"] ["got", "asks", "left"] (defScope s_level_of) := ⟨rfl, rfl, rfl, by decide +kernel, rfl, by decide +kernel, by decide +kernel⟩
/-- what a level asks for more -/
def needed (gs as : List Int) (l : Int) : Int := ((gs.zip as).map fun p => max 0 (min p.2 l - p.1)).sum
def sp_level_of (K : PySem.W.Frag) : Sp := fun vs H Q _ => ∃ a b gs as left, vs = [.ref a, .ref b, .int left] ∧ SqL K H a (gs.map V.int) ∧ SqT K H b (as.map V.int) ∧ gs.length = as.length ∧ gs.length ≤ 12 ∧ needed gs as 0 ≤ left ∧ 
  ∀ H' L, Ex H H' → 0 ≤ L → L ≤ 10000 → needed gs as L ≤ left → (L < 10000 → left < needed gs as (L + 1)) → Q (.int L) H'
theorem ok_level_of (C : Cx0 K mg base) : Cal P w K mg base 1 "level_of" ["got", "asks", "left"] (sp_level_of K) := by
  refine C.cal 4 4 rfl rfl sc_level_of (fun _ _ _ _ _ _ us hl => match us, hl with | [_, _, _], _ => rfl) (fun vs H Q E h => ?_) (fun f cdv A outer s H vs Q E hr h => ⟨_, PSs.nox
    (pss_cons (ps_par (i := 3) (j := 4) rfl sc_level_of.nd rfl rfl (by decide) rfl rfl (pa_cons pe_int (pa_cons (pe_gi (C.int 29)) pa_nil)) (by rfl))
      (pss_cons (ps_while PassesOwn.never (pt_cmpR (k_lt (K := K) rfl hr) (pv 3) (pv 4) (nomark _))
      (pss_cons (ps_set (i := 5) sc_level_of.nd rfl (Or.inr rfl) (pe_op op_fdivN (pe_op (k_add (K := K) rfl) (pe_op (k_add (K := K) rfl) (pv 3) (pv 4)) pe_int) pe_int))
      (pss_cons (ps_set (i := 6) sc_level_of.nd rfl (Or.inl rfl) (pe_bi (k_sum (K := K) rfl rfl) (C.free 20) (by decide +kernel) (pa_cons (pe_lc (own := [("have", 7), ("ask", 8)]) rfl sc_level_of.nd (k_zip (K := K) rfl rfl (C.free 25) (pa_cons (pv 0) (pa_cons (pv 1) pa_nil))) (blkOk_by (N := ["got", "asks", "left", "low", "high", "middle", "needed", "have", "ask"]) (sc := defScope s_level_of) (by decide +kernel)) (fun _ _ _ _ _ => (k_two (K := K) (i := 7) (j := 8) rfl sc_level_of.nd rfl rfl (Or.inl rfl) (Or.inl rfl) (Or.inr rfl) (Or.inr rfl) rfl)) (fun _ _ _ _ _ => pts_nil) (fun _ _ _ _ _ => (pe_bi (cr_max2 rfl) (C.free 22) (by decide +kernel) (pa_cons pe_int (pa_cons (pe_op op_sub (pe_bi (cr_min2 rfl) (C.free 21) (by decide +kernel) (pa_cons (pv 8) (pa_cons (pv 5) pa_nil))) (pv 7)) pa_nil))))) pa_nil)))
      (pss_one (ps_if (pt_cmpR (k_le (K := K) rfl hr) (pv 6) (pv 2) (nomark _)) (pss_one (ps_set (i := 3) sc_level_of.nd rfl (Or.inl rfl) (pv 5))) (pss_one (ps_set (i := 4) sc_level_of.nd rfl (Or.inl rfl) (pe_op op_sub (pv 5) pe_int))))))))
      (pss_one (ps_ret (pv 3))))), ?_⟩)
  · obtain ⟨a, b, gs, as, left, rfl, _⟩ := h
    rfl
  · obtain ⟨a, b, gs, as, left, rfl, ha, hb, hl, hs, h0, k⟩ := h
    repeat walk_at "rd"
    refine r_while (fun m σ H' => ∃ lo hi x5 x6 x7 x8, σ = [some (.ref a), some (.ref b), some (.int left), some (.int lo), some (.int hi), x5, x6, x7, x8] ∧ m = (hi - lo).toNat ∧ Ex H H' ∧ 0 ≤ lo ∧ lo ≤ hi ∧ hi ≤ 10000 ∧ needed gs as lo ≤ left ∧ (hi < 10000 → left < needed gs as (hi + 1))) 10000
      ⟨0, 10000, _, _, _, _, rfl, rfl, Ex.refl H, by omega, by omega, by omega, h0, fun c => by omega⟩ ?_
    rintro m σ H1 ⟨lo, hi, x5, x6, x7, x8, rfl, rfl, e1, b1, b2, b3, n1, n2⟩
    repeat walk_at "rd"
    by_cases c : lo < hi
    · refine r_T (decide_eq_true c) ?_
      refine r_wN ?_
      repeat walk_at "rd"
      refine r_divI ⟨by decide, by decide⟩ ?_
      repeat walk_at "rd"
      obtain ⟨mid, hm⟩ : ∃ mid, mid = (lo + hi + 1).fdiv 2 := ⟨_, rfl⟩
      rw [← hm]
      have hm2 : mid = (lo + hi + 1) / 2 := by rw [hm, Int.fdiv_eq_ediv_of_nonneg _ (by decide)]
      refine c_zipI (k1 := .l) (k2 := .t) (sqL_ex e1 ha) (sqT_ex e1 hb) (fun x y => max 0 (min y mid - x)) hl (by omega) (fun _ _ => rfl) ?_ ?_
      · intro x y T H2 q N hxy e2 hT hq
        repeat walk_at "rd"
        exact hq _ (Ex.new hT)
      · intro L H2 hL e2 hl2
        repeat walk_at "rd"
        refine r_sumL (sqL_of hl2) ?_
        repeat walk_at "rd"
        by_cases d : needed gs as mid ≤ left
        · refine r_T (decide_eq_true d) ?_
          repeat walk_at "rd"
          exact ⟨_, by omega, mid, hi, _, _, _, _, rfl, rfl, e1.trans e2, by omega, by omega, b3, d, n2⟩
        · refine r_F (decide_eq_false d) ?_
          repeat walk_at "rd"
          refine ⟨_, ?_, lo, mid - 1, _, _, _, _, rfl, rfl, e1.trans e2, b1, by omega, by omega, n1, fun _ => ?_⟩
          · omega
          · rw [show mid - 1 + 1 = mid by omega]; omega
    · refine r_F (decide_eq_false c) ?_
      have e : lo = hi := by omega
      subst e
      repeat walk_at "rd"
      exact k H1 lo e1 b1 b3 n1 n2
end
end K62

namespace K62
section
variable {P : Program} {w : World} {K : PySem.W.Frag} {mg : Str → Option Value} {base : Heap}
abbrev s_dealt : Stmt := top 12
theorem sc_dealt : FnScope ["capacity", "shares", "asks", "got", "share", "ask", "left", "level", "found", "have", "at"] ["capacity", "shares", "asks"] (defScope s_dealt) := ⟨rfl, rfl, rfl, by decide +kernel, rfl, by decide +kernel, by decide +kernel⟩
/-- have and ask by turns, what is left over in ones -/
def dl (L : Int) : Int → List (Int × Int) → List Int
  | _, [] => []
  | n, p :: r => if 0 < n ∧ p.1 = L ∧ L < p.2 then (p.1 + 1) :: dl L (n - 1) r else p.1 :: dl L n r
def gotOf (ss as : List Int) : List Int := (ss.zip as).map fun p => min p.1 p.2
def baseOf (L : Int) (gs as : List Int) : List Int := (gs.zip as).map fun p => max p.1 (min p.2 L)
def dealtOf (c L : Int) (ss as : List Int) : List Int := dl L (c - (baseOf L (gotOf ss as) as).sum) ((baseOf L (gotOf ss as) as).zip as)
def IsLevel (c L : Int) (ss as : List Int) : Prop := 0 ≤ L ∧ L ≤ 10000 ∧ needed (gotOf ss as) as L ≤ c - (gotOf ss as).sum ∧ (L < 10000 → c - (gotOf ss as).sum < needed (gotOf ss as) as (L + 1))
def sp_dealt (K : PySem.W.Frag) : Sp := fun vs H Q _ => ∃ c a b ss as, vs = [.int c, .ref a, .ref b] ∧ SqT K H a (ss.map V.int) ∧ SqT K H b (as.map V.int) ∧ 0 ≤ c ∧ c ≤ 10000 ∧ okAm ss ∧ okAm as ∧ as.length = ss.length ∧ ss.sum ≤ c ∧
  ∀ H' p L, Ex H H' → H p = none → IsLevel c L ss as → H' p = some (.tup ((dealtOf c L ss as).map V.int)) → Q (.ref p) H'
theorem got_le : ∀ {ss as : List Int}, (∀ n ∈ ss, 0 ≤ n) → ss.length = as.length → (gotOf ss as).sum ≤ ss.sum
  | [], _, _, _ => by unfold gotOf; simp
  | s :: ss, [], _, h => by cases h
  | s :: ss, a :: as, h, hl => by
    have := got_le (ss := ss) (as := as) (fun n hn => h n (List.mem_cons_of_mem _ hn)) (by simpa using hl)
    unfold gotOf at this ⊢
    rw [List.zip_cons_cons, List.map_cons, List.sum_cons, List.sum_cons]
    show min s a + _ ≤ _
    omega
theorem need0 : ∀ {ss as : List Int}, (∀ n ∈ ss, 0 ≤ n) → (∀ n ∈ as, 0 ≤ n) → needed (gotOf ss as) as 0 = 0
  | [], _, _, _ => by unfold needed gotOf; simp
  | s :: ss, [], _, _ => by unfold needed gotOf; simp
  | s :: ss, a :: as, h, k => by
    have := need0 (ss := ss) (as := as) (fun n hn => h n (List.mem_cons_of_mem _ hn)) (fun n hn => k n (List.mem_cons_of_mem _ hn))
    have h1 := h s (List.mem_cons_self ..)
    have h2 := k a (List.mem_cons_self ..)
    unfold needed gotOf at this ⊢
    rw [List.zip_cons_cons, List.map_cons, List.zip_cons_cons, List.map_cons, List.sum_cons, this]
    show max 0 (min a 0 - min s a) + 0 = 0
    omega
theorem got_len {ss as : List Int} (h : as.length = ss.length) : (gotOf ss as).length = ss.length := by
  unfold gotOf
  rw [List.length_map, List.length_zip]; omega
theorem base_len {L : Int} {gs as : List Int} (h : gs.length = as.length) : (baseOf L gs as).length = as.length := by
  unfold baseOf
  rw [List.length_map, List.length_zip]; omega
theorem dl_step {L n : Int} {p : Int × Int} {r : List (Int × Int)} : dl L n (p :: r) = if 0 < n ∧ p.1 = L ∧ L < p.2 then (p.1 + 1) :: dl L (n - 1) r else p.1 :: dl L n r := by rw [dl]
theorem ok_dealt (C : Cx0 K mg base) : Cal P w K mg base 4 "dealt" ["capacity", "shares", "asks"] (sp_dealt K) := by
  have c_is_in := ok_is_in (P := P) (w := w) C
  have c_demand := ok_demand (P := P) (w := w) C
  have c_are_amounts := ok_are_amounts (P := P) (w := w) C
  have c_level_of := ok_level_of (P := P) (w := w) C
  refine C.cal 5 5 rfl rfl sc_dealt (fun _ _ _ _ _ _ us hl => match us, hl with | [_, _, _], _ => rfl) (fun vs H Q E h => ?_) (fun f cdv A outer s H vs Q E hr h => ⟨_, PSs.nox
    (pss_cons (ps_expr (pe_f c_demand hr (by decide) passL (pa_cons (pe_f c_is_in hr (by decide) passL (pa_cons (pv 0) (pa_cons pe_int (pa_cons (pe_gi (C.int 29)) pa_nil)))) (pa_cons pe_str pa_nil))))
      (pss_cons (ps_expr (pe_f c_demand hr (by decide) passL (pa_cons (pe_and (pe_f c_are_amounts hr (by decide) passL (pa_cons (pv 1) pa_nil)) (pe_one (pe_cmpR (k_le (K := K) rfl hr) (pe_bi (k_sum (K := K) rfl rfl) (C.free 20) (by decide +kernel) (pa_cons (pv 1) pa_nil)) (pv 0) (nomark _)))) (pa_cons pe_str pa_nil))))
      (pss_cons (ps_expr (pe_f c_demand hr (by decide) passL (pa_cons (pe_and (pe_f c_are_amounts hr (by decide) passL (pa_cons (pv 2) pa_nil)) (pe_one (pe_cmpR (k_eq (K := K) rfl hr) (pe_bi (k_len (K := K) rfl) (C.free 23) (by decide +kernel) (pa_cons (pv 2) pa_nil)) (pe_bi (k_len (K := K) rfl) (C.free 23) (by decide +kernel) (pa_cons (pv 1) pa_nil)) (nomark _)))) (pa_cons pe_str pa_nil))))
      (pss_cons (ps_setLc (i := 3) (own := [("share", 4), ("ask", 5)]) rfl sc_dealt.nd rfl rfl (sw_true rfl rfl rfl (by decide +kernel)) (k_zip (K := K) rfl rfl (C.free 25) (pa_cons (pv 1) (pa_cons (pv 2) pa_nil))) (blkOk_by (N := ["capacity", "shares", "asks", "got", "share", "ask", "left", "level", "found", "have", "at"]) (sc := defScope s_dealt) (by decide +kernel)) (fun _ _ _ _ _ => (k_two (K := K) (i := 4) (j := 5) rfl sc_dealt.nd rfl rfl (Or.inl rfl) (Or.inl rfl) (Or.inr rfl) (Or.inr rfl) rfl)) (fun _ _ _ _ _ => pts_nil) (fun _ _ _ _ _ => (pe_bi (cr_min2 rfl) (C.free 21) (by decide +kernel) (pa_cons (pv 4) (pa_cons (pv 5) pa_nil)))))
      (pss_cons (ps_set (i := 6) sc_dealt.nd rfl (Or.inl rfl) (pe_op op_sub (pv 0) (pe_bi (k_sum (K := K) rfl rfl) (C.free 20) (by decide +kernel) (pa_cons (pv 3) pa_nil))))
      (pss_cons (ps_set (i := 7) sc_dealt.nd rfl (Or.inr rfl) (pe_f c_level_of hr (by decide) passL (pa_cons (pv 3) (pa_cons (pv 2) (pa_cons (pv 6) pa_nil)))))
      (pss_cons (ps_setLc (i := 8) (own := [("have", 9), ("ask", 5)]) rfl sc_dealt.nd rfl rfl (sw_true rfl rfl rfl (by decide +kernel)) (k_zip (K := K) rfl rfl (C.free 25) (pa_cons (pv 3) (pa_cons (pv 2) pa_nil))) (blkOk_by (N := ["capacity", "shares", "asks", "got", "share", "ask", "left", "level", "found", "have", "at"]) (sc := defScope s_dealt) (by decide +kernel)) (fun _ _ _ _ _ => (k_two (K := K) (i := 9) (j := 5) rfl sc_dealt.nd rfl rfl (Or.inl rfl) (Or.inl rfl) (Or.inr rfl) (Or.inr rfl) rfl)) (fun _ _ _ _ _ => pts_nil) (fun _ _ _ _ _ => (pe_bi (cr_max2 rfl) (C.free 22) (by decide +kernel) (pa_cons (pv 9) (pa_cons (pe_bi (cr_min2 rfl) (C.free 21) (by decide +kernel) (pa_cons (pv 5) (pa_cons (pv 7) pa_nil))) pa_nil)))))
      (pss_cons (ps_set (i := 6) sc_dealt.nd rfl (Or.inl rfl) (pe_op op_sub (pv 0) (pe_bi (k_sum (K := K) rfl rfl) (C.free 20) (by decide +kernel) (pa_cons (pv 8) pa_nil))))
      (pss_cons (ps_for PassesOwn.never rfl (k_enum (K := K) rfl rfl (C.free 15) (pa_cons (pv 2) pa_nil)) (k_two (K := K) (i := 10) (j := 5) rfl sc_dealt.nd rfl rfl (Or.inl rfl) (Or.inl rfl) (Or.inl rfl) (Or.inl rfl) rfl)
      (pss_one (ps_if (PW.pt (pw_and (pt_cmpR (k_gt (K := K) rfl hr) (pv 6) pe_int (nomark _)) (pw_and (pt_cmpR (k_eq (K := K) rfl hr) (pe_ix (k_ix (K := K) rfl) (pv 8) (pv 10) (fun _ _ => rfl)) (pv 7) (nomark _)) (pw_and1 (pt_cmpR (k_gt (K := K) rfl hr) (pv 5) (pv 7) (nomark _)))))) (pss_cons (ps_augS (pv 8) (pv 10) (k_get (K := K) rfl) pe_int ip_add set_list)
      (pss_one (ps_aug (i := 6) sc_dealt.nd rfl (Or.inl rfl) pe_int ip_sub))) pss_nil)))
      (pss_one (ps_ret (pe_bt (k_tuple (K := K) rfl) (C.free 16) (by decide +kernel) (pa_cons (pv 8) pa_nil))))))))))))), ?_⟩)
  · obtain ⟨c, a, b, ss, as, rfl, _⟩ := h
    rfl
  · obtain ⟨c, a, b, ss, as, rfl, ha, hb, c0, c1, o1, o2, hl, hs, k⟩ := h
    repeat walk_at "rd"
    refine ⟨.int c, "int", 0, 10000, rfl, .int c, ?_⟩
    rw [inB_yes c0 c1]
    repeat walk_at "rd"
    refine ⟨_, rfl, ?_⟩
    repeat walk_at "rd"
    refine ⟨a, ss, rfl, ha, o1, fun H1 e1 => ?_⟩
    repeat walk_at "rd"
    refine r_sumT (sqT_ex e1 ha) ?_
    repeat walk_at "rd"
    rw [decide_eq_true hs]
    refine ⟨_, rfl, ?_⟩
    repeat walk_at "rd"
    refine ⟨b, as, rfl, sqT_ex e1 hb, o2, fun H2 e2 => ?_⟩
    repeat walk_at "rd"
    refine r_lenTI (sqT_ex (e1.trans e2) hb) ?_
    repeat walk_at "rd"
    refine r_lenTI (sqT_ex (e1.trans e2) ha) ?_
    repeat walk_at "rd"
    rw [decide_eq_true (by omega)]
    refine ⟨_, rfl, ?_⟩
    repeat walk_at "rd"
    have e02 := e1.trans e2
    refine c_zipI (k1 := .t) (k2 := .t) (sqT_ex e02 ha) (sqT_ex e02 hb) (fun x y => min x y) hl.symm (by have := o1.2.1; omega) (fun _ _ => rfl) ?_ ?_
    · intro x y T H3 q N hxy e3 hT hq
      repeat walk_at "rd"
      exact hq _ (Ex.new hT)
    intro G H3 hG e3 hg
    repeat walk_at "rd"
    refine r_sumL (sqL_of hg) ?_
    repeat walk_at "rd"
    have e03 := e02.trans e3
    have gl := got_len (ss := ss) hl
    have n12 := o1.2.1
    refine ⟨G, b, gotOf ss as, as, _, rfl, sqL_of hg, sqT_ex e03 hb, by omega, by omega, ?_, fun H4 L e4 l0 l1 l2 l3 => ?_⟩
    · have := got_le (ss := ss) (as := as) (fun n hn => (o1.2.2 n hn).1) hl.symm
      rw [need0 (fun n hn => (o1.2.2 n hn).1) (fun n hn => (o2.2.2 n hn).1)]
      show 0 ≤ c - (gotOf ss as).sum
      omega
    repeat walk_at "rd"
    have e04 := e03.trans e4
    refine c_zipI (k1 := .l) (k2 := .t) (gs := gotOf ss as) (sqL_of (e4 _ _ hg)) (sqT_ex e04 hb) (fun x y => max x (min y L)) (by omega) (by omega) (fun _ _ => rfl) ?_ ?_
    · intro x y T H5 q N hxy e5 hT hq
      repeat walk_at "rd"
      exact hq _ (Ex.new hT)
    intro F H5 hF e5 hf
    obtain ⟨f0, hf0⟩ : ∃ f0, f0 = baseOf L (gotOf ss as) as := ⟨_, rfl⟩
    have hfl : f0.length = as.length := by rw [hf0, base_len (by omega)]
    replace hf : H5 F = some (.lst (f0.map V.int)) := by rw [hf, hf0]; rfl
    repeat walk_at "rd"
    refine r_sumL (sqL_of hf) ?_
    repeat walk_at "rd"
    have e05 := e04.trans e5
    have F0 : H F = none := e04.free hF
    refine f_enum (k := .t) (sqT_ex e05 hb) (fun i σ H' => ∃ (cur : List Int) (n : Int) (x4 x5 x9 x10 : Option V), σ = [some (.int c), some (.ref a), some (.ref b), some (.ref G), x4, x5, some (.int n), some (.int L), some (.ref F), x9, x10] ∧ Ex H H' ∧ H' F = some (.lst (cur.map V.int)) ∧
      cur.length = as.length ∧ cur.drop i = f0.drop i ∧ dl L (c - f0.sum) (f0.zip as) = cur.take i ++ dl L n ((f0.zip as).drop i)) ⟨f0, c - f0.sum, _, _, _, _, rfl, e05, hf, hfl, rfl, rfl⟩ (fun i σ H' _ p => ?_) ?_ ?_
    · obtain ⟨_, _, _, _, _, _, _, e, _⟩ := p
      exact sqT_ex e hb
    · rintro i x T σ H6 hx ⟨cur, n, x4, x5, x9, x10, rfl, e6, hc, cl, cd, ce⟩ hT
      rw [List.getElem?_map] at hx
      obtain ⟨av, hav, rfl⟩ := Option.map_eq_some_iff.mp hx
      have hi : i < as.length := (List.getElem?_eq_some_iff.mp hav).1
      have hif : i < f0.length := by omega
      have hfv : f0[i]? = some f0[i] := List.getElem?_eq_getElem hif
      have hcv : cur[i]? = some f0[i] := by
        have := congrArg (fun l => l[0]?) cd
        simp only [List.getElem?_drop, Nat.add_zero] at this
        rw [this, hfv]
      obtain ⟨fv, efv⟩ : ∃ fv, fv = f0[i] := ⟨_, rfl⟩
      rw [← efv] at hfv hcv
      have hz : (f0.zip as)[i]? = some (fv, av) := by
        rw [List.getElem?_zip_eq_some]
        exact ⟨hfv, hav⟩
      have hzd : (f0.zip as).drop i = (fv, av) :: (f0.zip as).drop (i + 1) := by
        obtain ⟨h1, h2⟩ := List.getElem?_eq_some_iff.mp hz
        rw [List.drop_eq_getElem_cons h1, h2]
      rw [hzd, dl_step] at ce
      have cd' : cur.drop (i + 1) = f0.drop (i + 1) := by
        have := congrArg List.tail cd
        rwa [List.tail_drop, List.tail_drop] at this
      have ctk : cur.take (i + 1) = cur.take i ++ [fv] := by
        rw [List.take_add_one, hcv]; rfl
      have keep : ∀ H7, Ex H H7 → H7 F = some (.lst (cur.map V.int)) → ¬ (0 < n ∧ fv = L ∧ L < av) → ∃ (cur : List Int) (n' : Int) (z4 x5' z9 x10' : Option V), [some (V.int c), some (.ref a), some (.ref b), some (.ref G), x4, some (.int av), some (.int n), some (.int L), some (.ref F), x9, some (.int (i : Nat))] = [some (.int c), some (.ref a), some (.ref b), some (.ref G), z4, x5', some (.int n'), some (.int L), some (.ref F), z9, x10'] ∧ Ex H H7 ∧ H7 F = some (.lst (cur.map V.int)) ∧
          cur.length = as.length ∧ cur.drop (i + 1) = f0.drop (i + 1) ∧ dl L (c - f0.sum) (f0.zip as) = cur.take (i + 1) ++ dl L n' ((f0.zip as).drop (i + 1)) := fun H7 e7 h7 nb => by
        rw [if_neg nb] at ce
        exact ⟨cur, n, x4, _, x9, _, rfl, e7, h7, cl, cd', by rw [ctk, ce, List.append_assoc]; rfl⟩
      have e6' := e6.trans (Ex.new (o := .tup [.int (i : Nat), .int av]) hT)
      have hc' : upd H6 T (.tup [.int (i : Nat), .int av]) F = some (.lst (cur.map V.int)) := at_up hT hc
      repeat walk_at "rd"
      by_cases q1 : 0 < n
      · refine r_T (decide_eq_true q1) ?_
        repeat walk_at "rd"
        refine r_ixLI (sqL_of hc') hcv ?_
        repeat walk_at "rd"
        by_cases q2 : fv = L
        · refine r_T (decide_eq_true q2) ?_
          repeat walk_at "rd"
          by_cases q3 : L < av
          · refine r_T (decide_eq_true q3) ?_
            repeat walk_at "rd"
            refine r_getL (sqL_of hc') (by rw [List.getElem?_map, hcv]; rfl) ?_
            repeat walk_at "rd"
            refine r_setL hc' (by rw [List.length_map]; omega) ?_
            repeat walk_at "rd"
            rw [if_pos ⟨q1, q2, q3⟩] at ce
            refine ⟨cur.set i (fv + 1), n - 1, _, _, _, _, rfl, fun z o hz => ?_, ?_, by rw [List.length_set]; exact cl, ?_, ?_⟩
            · have : z ≠ F := fun e => by rw [e, F0] at hz; cases hz
              exact (upd_ne this).trans (e6' z o hz)
            · rw [upd_same, List.map_set]
            · rw [List.drop_set_of_lt (by omega)]; exact cd'
            · rw [ce, List.take_add_one, List.take_set_of_le (Nat.le_refl _), List.getElem?_set_self (by omega), List.append_assoc]; rfl
          · refine r_F (decide_eq_false q3) ?_
            repeat walk_at "rd"
            obtain ⟨cur, n', y4, y5, y9, y10, ey, r⟩ := keep _ e6' hc' fun h => q3 h.2.2
            exact ⟨cur, n', y4, y5, y9, y10, ey, r⟩
        · refine r_F (decide_eq_false q2) ?_
          repeat walk_at "rd"
          obtain ⟨cur, n', y4, y5, y9, y10, ey, r⟩ := keep _ e6' hc' fun h => q2 h.2.1
          exact ⟨cur, n', y4, y5, y9, y10, ey, r⟩
      · refine r_F (decide_eq_false q1) ?_
        repeat walk_at "rd"
        obtain ⟨cur, n', y4, y5, y9, y10, ey, r⟩ := keep _ e6' hc' fun h => q1 h.1
        exact ⟨cur, n', y4, y5, y9, y10, ey, r⟩
    · rintro σ H6 ⟨cur, n, x4, x5, x9, x10, rfl, e6, hc, cl, cd, ce⟩
      rw [List.length_map] at ce
      have hend : (f0.zip as).drop as.length = [] := List.drop_eq_nil_of_le (by rw [List.length_zip]; omega)
      rw [hend, List.take_of_length_le (by omega), dl, List.append_nil] at ce
      repeat walk_at "rd"
      refine r_tupL (sqL_of hc) fun p hp => ?_
      refine k _ p L (e6.trans (Ex.new hp)) (e6.free hp) ⟨l0, l1, l2, l3⟩ ?_
      rw [upd_same, ← ce, hf0]; rfl
end
end K62

namespace K62
section
variable {P : Program} {w : World} {K : PySem.W.Frag} {mg : Str → Option Value} {base : Heap}
abbrev s__law_roll : Stmt := top 15
theorem sc__law_roll : FnScope ["dice", "total", "found"] ["dice", "total"] (defScope s__law_roll) := ⟨rfl, rfl, rfl, by decide +kernel, rfl, by decide +kernel, by decide +kernel⟩
def sp_roll : Sp := fun vs H Q _ => ∃ (d : Addr) (t : Int) (n : Nat), vs = [.ref d, .int t] ∧ Dice n H d ∧ n < 1000000000000 ∧ 0 < t ∧ t < 1073741824 ∧
  ∀ r H', 0 ≤ r → r < t → ExB d H H' → Dice (n + 1) H' d → Q (.int r) H'
theorem ok__law_roll (C : Cx0 K mg base) : Cal P w K mg base 1 "_law_roll" ["dice", "total"] sp_roll := by
  refine C.cal 7 7 rfl rfl sc__law_roll (fun _ _ _ _ _ _ us hl => match us, hl with | [_, _], _ => rfl) (fun vs H Q E h => ?_) (fun f cdv A outer s H vs Q E hr h => ⟨_, PSs.nox
    (pss_cons (ps_if (pt_cmpR (k_gt (K := K) rfl hr) (pe_ix (k_ix (K := K) rfl) (pv 0) pe_int (fun _ _ => rfl)) pe_int (nomark _)) (pss_cons (ps_set (i := 2) sc__law_roll.nd rfl (Or.inl rfl) (pe_op op_modN (pe_bt cr_int1 (C.free 19) (by decide +kernel) (pa_cons (pe_ix (k_ix (K := K) rfl) (pv 0) pe_int (fun _ _ => rfl)) pa_nil)) (pv 1)))
      (pss_cons (ps_asg (pe_op op_fdivN (pe_ix (k_ix (K := K) rfl) (pv 0) pe_int (fun _ _ => rfl)) (pv 1)) (pg_sub (pv 0) pe_int set_list))
      (pss_one (ps_ret (pv 2))))) pss_nil)
      (pss_cons (ps_asg (pe_op (k_add (K := K) rfl) (pe_ix (k_ix (K := K) rfl) (pv 0) pe_int (fun _ _ => rfl)) pe_int) (pg_sub (pv 0) pe_int set_list))
      (pss_cons (ps_asg (pe_op op_modN (pe_bt cr_int1 (C.free 19) (by decide +kernel) (pa_cons (pe_op (k_add (K := K) rfl) (pe_op (k_add (K := K) rfl) (pe_op op_mulA (pe_ix (k_ix (K := K) rfl) (pv 0) pe_int (fun _ _ => rfl)) pe_int) (pe_op op_mulA (pe_op op_mulA (pe_ix (k_ix (K := K) rfl) (pv 0) pe_int (fun _ _ => rfl)) (pe_ix (k_ix (K := K) rfl) (pv 0) pe_int (fun _ _ => rfl))) pe_int)) pe_int) pa_nil)) pe_int) (pg_sub (pv 0) pe_int set_list))
      (pss_one (ps_ret (pe_op op_modN (pe_bt cr_int1 (C.free 19) (by decide +kernel) (pa_cons (pe_op op_fdivN (pe_ix (k_ix (K := K) rfl) (pv 0) pe_int (fun _ _ => rfl)) pe_int) pa_nil)) (pv 1))))))), ?_⟩)
  · obtain ⟨d, t, n, rfl, _⟩ := h
    rfl
  · obtain ⟨d, t, n, rfl, ⟨x, y, z, hd, x0, y0, y1, z0, z1⟩, hn, t0, t1, k⟩ := h
    repeat walk_at "rd"
    refine r_ixLI (i := 0) (sqL_of hd) rfl ?_
    repeat walk_at "rd"
    by_cases c : 0 < x
    · refine r_T (decide_eq_true c) ?_
      repeat walk_at "rd"
      refine r_ixLI (i := 0) (sqL_of hd) rfl ?_
      repeat walk_at "rd"
      refine r_modI (by omega) ?_
      repeat walk_at "rd"
      refine r_ixLI (i := 0) (sqL_of hd) rfl ?_
      repeat walk_at "rd"
      refine r_divI ⟨by omega, by omega⟩ ?_
      repeat walk_at "rd"
      refine r_setL (i := 0) hd (show 0 < 3 by decide) ?_
      repeat walk_at "rd"
      rw [Int.fmod_eq_emod_of_nonneg _ (by omega), Int.fdiv_eq_ediv_of_nonneg _ (by omega)]
      exact k _ _ (Int.emod_nonneg _ (by omega)) (Int.emod_lt_of_pos _ t0) ExB.put ⟨x / t, y, z, upd_same, Int.ediv_nonneg x0 (by omega), y0, y1, z0, by omega⟩
    · refine r_F (decide_eq_false c) ?_
      repeat walk_at "rd"
      refine r_ixLI (i := 2) (sqL_of hd) rfl ?_
      repeat walk_at "rd"
      refine r_setL (i := 2) hd (show 2 < 3 by decide) ?_
      repeat walk_at "rd"
      have h1 : upd H d (.lst (List.set ([x, y, z].map V.int) 2 (.int (z + 1)))) d = some (.lst ([x, y, z + 1].map V.int)) := upd_same
      refine r_ixLI (i := 1) (sqL_of h1) rfl ?_
      repeat walk_at "rd"
      refine r_mulI (.inr (by omega)) ?_
      repeat walk_at "rd"
      refine r_ixLI (i := 2) (sqL_of h1) rfl ?_
      repeat walk_at "rd"
      refine r_ixLI (i := 2) (sqL_of h1) rfl ?_
      repeat walk_at "rd"
      refine r_mulI (.inr (by omega)) ?_
      repeat walk_at "rd"
      refine r_mulI (.inr (by omega)) ?_
      repeat walk_at "rd"
      refine r_modI (by decide) ?_
      repeat walk_at "rd"
      refine r_setL (i := 1) h1 (show 1 < 3 by decide) ?_
      repeat walk_at "rd"
      rw [Int.fmod_eq_emod_of_nonneg _ (by decide)]
      obtain ⟨u, eu⟩ : ∃ u, u = (y * 52501 + (z + 1) * (z + 1) * 1009 + 77) % 2147480009 := ⟨_, rfl⟩
      rw [← eu]
      have u0 : 0 ≤ u := by rw [eu]; exact Int.emod_nonneg _ (by decide)
      have u1 : u < 2147480009 := by rw [eu]; exact Int.emod_lt_of_pos _ (by decide)
      have h2 : ∀ H0 : Hp, upd H0 d (.lst (List.set ([x, y, z + 1].map V.int) 1 (.int u))) d = some (.lst ([x, u, z + 1].map V.int)) := fun _ => upd_same
      refine r_ixLI (i := 1) (sqL_of (h2 _)) rfl ?_
      repeat walk_at "rd"
      refine r_divI ⟨by decide, by decide⟩ ?_
      repeat walk_at "rd"
      refine r_modI (by omega) ?_
      repeat walk_at "rd"
      rw [Int.fmod_eq_emod_of_nonneg _ (by omega)]
      exact k _ _ (Int.emod_nonneg _ (by omega)) (Int.emod_lt_of_pos _ t0) (ExB.trans ExB.put ExB.put) ⟨x, u, z + 1, h2 _, x0, u0, u1, by omega, by omega⟩
abbrev s__law_pick : Stmt := top 16
theorem sc__law_pick : FnScope ["dice", "things"] ["dice", "things"] (defScope s__law_pick) := ⟨rfl, rfl, rfl, by decide +kernel, rfl, by decide +kernel, by decide +kernel⟩
def sp_pick (K : PySem.W.Frag) : Sp := fun vs H Q _ => ∃ (d a : Addr) (k : Sk) (xs : List V) (n : Nat), vs = [.ref d, .ref a] ∧ Dice n H d ∧ n < 1000000000000 ∧ a ≠ d ∧ k.at K H a xs ∧ 0 < xs.length ∧ xs.length < 1000000 ∧
  ∀ (i : Nat) v H', xs[i]? = some v → ExB d H H' → Dice (n + 1) H' d → Q v H'
theorem ok__law_pick (C : Cx0 K mg base) : Cal P w K mg base 2 "_law_pick" ["dice", "things"] (sp_pick K) := by
  have c__law_roll := ok__law_roll (P := P) (w := w) C
  refine C.cal 8 8 rfl rfl sc__law_pick (fun _ _ _ _ _ _ us hl => match us, hl with | [_, _], _ => rfl) (fun vs H Q E h => ?_) (fun f cdv A outer s H vs Q E hr h => ⟨_, PSs.nox
    (pss_one (ps_ret (pe_ix (k_ix (K := K) rfl) (pv 1) (pe_f c__law_roll hr (by decide) passL (pa_cons (pv 0) (pa_cons (pe_bi (k_len (K := K) rfl) (C.free 23) (by decide +kernel) (pa_cons (pv 1) pa_nil)) pa_nil))) (fun _ _ => rfl)))), ?_⟩)
  · obtain ⟨d, a, k, xs, n, rfl, _⟩ := h
    rfl
  · obtain ⟨d, a, k, xs, n, rfl, hd, hn, ne, ha, l0, l1, q⟩ := h
    repeat walk_at "rd"
    refine r_lenS ha ?_
    repeat walk_at "rd"
    refine ⟨d, _, n, rfl, hd, hn, by omega, by omega, fun r H' r0 r1 e h' => ?_⟩
    obtain ⟨i, rfl⟩ := Int.eq_ofNat_of_zero_le r0
    have hi : i < xs.length := by omega
    exact r_ixS (k.exb e ne ha) (List.getElem?_eq_getElem hi) (q i _ H' (List.getElem?_eq_getElem hi) e h')
abbrev s__law_dice : Stmt := top 14
theorem sc__law_dice : FnScope ["script", "spot", "own", "mixed", "cell"] ["script", "spot"] (defScope s__law_dice) := ⟨rfl, rfl, rfl, by decide +kernel, rfl, by decide +kernel, by decide +kernel⟩
def sp_dice (K : PySem.W.Frag) : Sp := fun vs H Q _ => ∃ (a : Addr) (ns : List Int) (spot : Int), vs = [.ref a, .int spot] ∧ SqL K H a (ns.map V.int) ∧ 0 ≤ spot ∧ spot < 1000 ∧ ns.length ≤ 1000 ∧ ∀ p H', Ex H H' → H p = none → Dice 0 H' p → Q (.ref p) H'
theorem ok__law_dice (C : Cx0 K mg base) : Cal P w K mg base 1 "_law_dice" ["script", "spot"] (sp_dice K) := by
  refine C.cal 6 6 rfl rfl sc__law_dice (fun _ _ _ _ _ _ us hl => match us, hl with | [_, _], _ => rfl) (fun vs H Q E h => ?_) (fun f cdv A outer s H vs Q E hr h => ⟨_, PSs.nox
    (pss_cons (ps_set (i := 2) sc__law_dice.nd rfl (Or.inl rfl) (pe_ifExp (pt_cmpR (k_lt (K := K) rfl hr) (pv 1) (pe_bi (k_len (K := K) rfl) (C.free 23) (by decide +kernel) (pa_cons (pv 0) pa_nil)) (nomark _)) (pe_ix (k_ix (K := K) rfl) (pv 0) (pv 1) (fun _ _ => rfl)) (pe_op (k_add (K := K) rfl) (pe_op op_mulA pe_int (pv 1)) pe_int)))
      (pss_cons (ps_set (i := 3) sc__law_dice.nd rfl (Or.inl rfl) (pe_op (k_add (K := K) rfl) pe_int (pe_op op_mulA pe_int (pv 1))))
      (pss_cons (ps_for PassesOwn.never rfl (k_seq (K := K) rfl (pe_op (k_add (K := K) rfl) (pe_slice (k_sl (K := K) rfl) (pv 0) po_none (po_some pe_int)) (pe_lst (pa_cons (pv 2) pa_nil)))) (pg_name (i := 4) sc__law_dice.nd rfl (Or.inl rfl))
      (pss_one (ps_set (i := 3) sc__law_dice.nd rfl (Or.inl rfl) (pe_op op_modN (pe_bt cr_int1 (C.free 19) (by decide +kernel) (pa_cons (pe_op (k_add (K := K) rfl) (pe_op op_mulA (pv 3) pe_int) (pe_op op_modN (pe_bt cr_int1 (C.free 19) (by decide +kernel) (pa_cons (pv 4) pa_nil)) pe_int)) pa_nil)) pe_int))))
      (pss_one (ps_ret (pe_lst (pa_cons (pe_ifExp (PW.pt (pw_or (pt_cmpR (k_lt (K := K) rfl hr) (pv 2) pe_int (nomark _)) (pw_or1 (pt_cmpR (k_ge (K := K) rfl hr) (pv 2) (pe_op op_pow pe_int pe_int) (nomark _))))) (pe_bi cr_abs (C.free 26) (by decide +kernel) (pa_cons (pv 2) pa_nil)) pe_int) (pa_cons (pv 3) (pa_cons pe_int pa_nil))))))))), ?_⟩)
  · obtain ⟨a, ns, spot, rfl, _⟩ := h
    rfl
  · obtain ⟨a, ns, spot, rfl, ha, s0, s1, nl, k⟩ := h
    obtain ⟨sp, rfl⟩ := Int.eq_ofNat_of_zero_le s0
    repeat walk_at "rd"
    refine r_lenLI ha ?_
    repeat walk_at "rd"
    refine r_split (fun own => ?_) (fun c main => ?_) (fun c main => ?_)
    · repeat walk_at "rd"
      refine r_mulI (.inl (by omega)) ?_
      repeat walk_at "rd"
      refine r_slL ha fun p hp => ?_
      repeat walk_at "rd"
      obtain ⟨m, n, ec⟩ := cut_map (ns := ns) none (some 6)
      rw [ec]
      refine ⟨(show 1 ≤ sizeLine by decide), fun q hq => ?_⟩
      have hp1 : upd (upd H p (.lst (((ns.drop m).take n).map V.int))) q (.lst [.int own]) p = some (.lst (((ns.drop m).take n).map V.int)) := at_up hq upd_same
      refine r_catL (xs := ((ns.drop m).take n).map V.int) (ys := [.int own]) hp1 upd_same ?_ fun r hr2 => ?_
      · rw [List.length_map, List.length_take, List.length_drop, List.length_singleton]
        have : 1001 ≤ sizeLine := by decide
        omega
      have er : Ex H (upd (upd (upd H p (.lst (((ns.drop m).take n).map V.int))) q (.lst [.int own])) r (.lst (((ns.drop m).take n).map V.int ++ [.int own]))) := ((Ex.new hp).trans (Ex.new hq)).trans (Ex.new hr2)
      refine f_seq (k := .l) sqL_new (fun i σ H' => ∃ mixed : Int, ∃ x4, σ = [some (.ref a), some (.int (sp : Nat)), some (.int own), some (.int mixed), x4] ∧ 0 ≤ mixed ∧ mixed < 2147480009 ∧ Ex _ H') ⟨_, _, rfl, by omega, by omega, Ex.refl _⟩ (fun i σ H' _ p => sqL_ex p.choose_spec.choose_spec.2.2.2 sqL_new) ?_ ?_
      · rintro i x σ H' hx ⟨mixed, x4, rfl, m0, m1, e⟩
        have hint : ∃ j, x = .int j := by
          have := List.mem_of_getElem? hx
          rw [List.mem_append, List.mem_singleton, List.mem_map] at this
          rcases this with ⟨j, _, rfl⟩ | rfl
          · exact ⟨j, rfl⟩
          · exact ⟨_, rfl⟩
        obtain ⟨j, rfl⟩ := hint
        repeat walk_at "rd"
        refine r_mulI (.inr (by omega)) ?_
        repeat walk_at "rd"
        refine r_modI (by decide) ?_
        repeat walk_at "rd"
        refine r_modI (by decide) ?_
        repeat walk_at "rd"
        exact ⟨_, _, rfl, by rw [Int.fmod_eq_emod_of_nonneg _ (by decide)]; exact Int.emod_nonneg _ (by decide), by rw [Int.fmod_eq_emod_of_nonneg _ (by decide)]; exact Int.emod_lt_of_pos _ (by decide), e⟩
      · rintro σ H' ⟨mixed, x4, rfl, m0, m1, e⟩
        have fin : ∀ x : Int, 0 ≤ x → (3 ≤ sizeLine ∧ ∀ p, H' p = none → Q (.ref p) (upd H' p (.lst [.int x, .int mixed, .int 0]))) := fun x hx => ⟨(show 3 ≤ sizeLine by decide), fun p hp =>
          k p _ ((er.trans e).add hp) ((er.trans e).free hp) ⟨x, mixed, 0, upd_same, hx, m0, m1, by decide, by decide⟩⟩
        repeat walk_at "rd"
        by_cases c : own < 0
        · refine r_T (decide_eq_true c) ?_
          repeat walk_at "rd"
          refine r_abs ?_
          repeat walk_at "rd"
          exact fin _ (by split <;> omega)
        · refine r_F (decide_eq_false c) ?_
          repeat walk_at "rd"
          refine r_powI ⟨by decide, by decide, by decide⟩ ?_
          repeat walk_at "rd"
          refine r_D (fun c2 => ?_) (fun c2 => ?_)
          · repeat walk_at "rd"
            refine r_abs ?_
            repeat walk_at "rd"
            exact fin _ (by split <;> omega)
          · repeat walk_at "rd"
            exact fin 0 (by omega)
    · repeat walk_at "rd"
      have hs : ns[sp]? = some ns[sp] := List.getElem?_eq_getElem (by omega)
      exact r_ixLI ha hs (main ns[sp])
    · repeat walk_at "rd"
      refine r_mulI (.inl (by omega)) (r_addI ?_)
      exact main _

end
end K62

namespace K62
section
variable {P : Program} {w : World} {K : PySem.W.Frag} {mg : Str → Option Value} {base : Heap}
abbrev s__law_tuples : Stmt := top 17
theorem sc__law_tuples : FnScope ["shares", "asks", "total", "rows", "at", "longer", "row", "many"] ["shares", "asks", "total"] (defScope s__law_tuples) := ⟨rfl, rfl, rfl, by decide +kernel, rfl, by decide +kernel, by decide +kernel⟩
def longer (lo hi t : Int) (r : List Int) (n : Nat) : List (List Int) := (List.range n).filterMap fun j => if r.sum + (lo + (j : Nat)) ≤ t then some (r ++ [lo + (j : Nat)]) else none
def rowsAt (ss as : List Int) (t : Int) : Nat → List (List Int)
  | 0 => [[]]
  | i + 1 => (rowsAt ss as t i).flatMap fun r => longer (min (ss.getD i 0) (as.getD i 0)) (as.getD i 0 + 1) t r (as.getD i 0 + 1 - min (ss.getD i 0) (as.getD i 0)).toNat
def tuplesOf (ss as : List Int) (t : Int) : List (List Int) := (rowsAt ss as t as.length).filter fun r => decide (r.sum = t)
def sp_tuples (K : PySem.W.Frag) : Sp := fun vs H Q _ => ∃ a b ss as t, vs = [.ref a, .ref b, .int t] ∧ SqT K H a (ss.map V.int) ∧ SqT K H b (as.map V.int) ∧ ss.length = as.length ∧ as.length ≤ 3 ∧ (∀ n ∈ ss, 0 ≤ n ∧ n ≤ 100) ∧ (∀ n ∈ as, 0 ≤ n ∧ n ≤ 6) ∧
  ∀ H' p us, Ex H H' → H' p = some (.lst us) → Rws K H' us (tuplesOf ss as t) → Q (.ref p) H'
theorem longer_len {lo hi t : Int} {r : List Int} {n : Nat} : (longer lo hi t r n).length ≤ n := by
  have := List.length_filterMap_le (fun j : Nat => if r.sum + (lo + (j : Nat)) ≤ t then some (r ++ [lo + (j : Nat)]) else none) (List.range n)
  rw [List.length_range] at this
  exact this
theorem flat_len {α β : Type} {f : α → List β} {k : Nat} (h : ∀ x, (f x).length ≤ k) : ∀ l : List α, (l.flatMap f).length ≤ k * l.length
  | [] => by simp
  | x :: l => by
    have h1 := h x
    have h2 := flat_len h l
    rw [List.flatMap_cons, List.length_append, List.length_cons, Nat.mul_add]
    omega
theorem getD_of {l : List Int} {i : Nat} {v : Int} (h : l[i]? = some v) : l.getD i 0 = v := by
  rw [List.getD_eq_getElem?_getD, h]; rfl
theorem rows_len {ss as : List Int} {t : Int} (hs : ∀ n ∈ ss, 0 ≤ n ∧ n ≤ 100) (ha : ∀ n ∈ as, 0 ≤ n ∧ n ≤ 6) : ∀ i, (rowsAt ss as t i).length ≤ 7 ^ i
  | 0 => by simp [rowsAt]
  | i + 1 => by
    have ih := rows_len (t := t) hs ha i
    have g : ∀ (l : List Int) (b : Int), 0 ≤ b → (∀ n ∈ l, 0 ≤ n ∧ n ≤ b) → 0 ≤ l.getD i 0 ∧ l.getD i 0 ≤ b := fun l b hb hl => by
      rw [List.getD_eq_getElem?_getD]
      cases e : l[i]? with
      | none => exact ⟨Int.le_refl _, hb⟩
      | some v => exact hl v (List.mem_of_getElem? e)
    have g1 := g ss 100 (by decide) hs
    have g2 := g as 6 (by decide) ha
    have := flat_len (f := fun r => longer (min (ss.getD i 0) (as.getD i 0)) (as.getD i 0 + 1) t r (as.getD i 0 + 1 - min (ss.getD i 0) (as.getD i 0)).toNat) (k := 7) (fun r => Nat.le_trans longer_len (by omega)) (rowsAt ss as t i)
    rw [rowsAt, Nat.pow_succ]
    omega
theorem longer_mem {lo hi t : Int} {r x : List Int} {n : Nat} : x ∈ longer lo hi t r n ↔ ∃ j : Nat, j < n ∧ r.sum + (lo + (j : Nat)) ≤ t ∧ x = r ++ [lo + (j : Nat)] := by
  unfold longer
  rw [List.mem_filterMap]
  constructor
  · rintro ⟨j, hj, e⟩
    split at e
    · rename_i h
      cases e
      exact ⟨j, List.mem_range.mp hj, h, rfl⟩
    · cases e
  · rintro ⟨j, hj, h, rfl⟩
    exact ⟨j, List.mem_range.mpr hj, by rw [if_pos h]⟩
theorem rows_wide {ss as : List Int} {t : Int} : ∀ i, ∀ r ∈ rowsAt ss as t i, r.length = i
  | 0, r, h => by
    rw [rowsAt, List.mem_singleton] at h
    rw [h]; rfl
  | i + 1, r, h => by
    rw [rowsAt, List.mem_flatMap] at h
    obtain ⟨q, hq, hr⟩ := h
    obtain ⟨j, _, _, rfl⟩ := longer_mem.mp hr
    rw [List.length_append, List.length_singleton, rows_wide i q hq]
theorem longer_succ {lo hi t : Int} {r : List Int} {n : Nat} : longer lo hi t r (n + 1) = longer lo hi t r n ++ (if r.sum + (lo + (n : Nat)) ≤ t then [r ++ [lo + (n : Nat)]] else []) := by
  unfold longer
  rw [List.range_succ, List.filterMap_append]
  congr 1
  rw [List.filterMap_cons, List.filterMap_nil]
  split
  · rename_i h
    split at h
    · cases h
    · rename_i h2
      rw [if_neg h2]
  · rename_i h
    split at h
    · rename_i h2
      rw [if_pos h2]
      cases h; rfl
    · cases h
theorem ok__law_tuples (C : Cx0 K mg base) : Cal P w K mg base 1 "_law_tuples" ["shares", "asks", "total"] (sp_tuples K) := by
  refine C.cal 9 9 rfl rfl sc__law_tuples (fun _ _ _ _ _ _ us hl => match us, hl with | [_, _, _], _ => rfl) (fun vs H Q E h => ?_) (fun f cdv A outer s H vs Q E hr h => ⟨_, PSs.nox
    (pss_cons (ps_set (i := 3) sc__law_tuples.nd rfl (Or.inl rfl) (pe_lst (pa_cons (pe_tup pa_nil) pa_nil)))
      (pss_cons (ps_for PassesOwn.never rfl (pi_range1 rfl (C.free 17) (pa_cons (pe_bi (k_len (K := K) rfl) (C.free 23) (by decide +kernel) (pa_cons (pv 1) pa_nil)) pa_nil)) (pg_name (i := 4) sc__law_tuples.nd rfl (Or.inl rfl))
      (pss_cons (ps_set (i := 5) sc__law_tuples.nd rfl (Or.inl rfl) (pe_lst pa_nil))
      (pss_cons (ps_for PassesOwn.never rfl (k_seq (K := K) rfl (pv 3)) (pg_name (i := 6) sc__law_tuples.nd rfl (Or.inl rfl))
      (pss_one (ps_for PassesOwn.never rfl (pi_range2 rfl (C.free 17) (pa_cons (pe_bi (cr_min2 rfl) (C.free 21) (by decide +kernel) (pa_cons (pe_ix (k_ix (K := K) rfl) (pv 0) (pv 4) (fun _ _ => rfl)) (pa_cons (pe_ix (k_ix (K := K) rfl) (pv 1) (pv 4) (fun _ _ => rfl)) pa_nil))) (pa_cons (pe_op (k_add (K := K) rfl) (pe_ix (k_ix (K := K) rfl) (pv 1) (pv 4) (fun _ _ => rfl)) pe_int) pa_nil))) (pg_name (i := 7) sc__law_tuples.nd rfl (Or.inl rfl))
      (pss_one (ps_if (pt_cmpR (k_le (K := K) rfl hr) (pe_op (k_add (K := K) rfl) (pe_bi (k_sum (K := K) rfl rfl) (C.free 20) (by decide +kernel) (pa_cons (pv 6) pa_nil)) (pv 7)) (pv 2) (nomark _)) (pss_one (ps_expr (k_append (K := K) rfl (pv 5) (pe_op (k_add (K := K) rfl) (pv 6) (pe_tup (pa_cons (pv 7) pa_nil)))))) pss_nil)))))
      (pss_one (ps_set (i := 3) sc__law_tuples.nd rfl (Or.inl rfl) (pv 5))))))
      (pss_one (ps_ret (pe_lc (own := [("row", 6)]) rfl sc__law_tuples.nd (k_seq (K := K) rfl (pv 3)) (blkOk_by (N := ["shares", "asks", "total", "rows", "at", "longer", "row", "many"]) (sc := defScope s__law_tuples) (by decide +kernel)) (fun _ _ _ _ _ => (pg_name (i := 6) sc__law_tuples.nd rfl (Or.inl rfl))) (fun _ _ _ _ _ => pts_one (pt_cmpR (k_eq (K := K) rfl hr) (pe_bi (k_sum (K := K) rfl rfl) (C.free 20) (by decide +kernel) (pa_cons (pv 6) pa_nil)) (pv 2) (nomark _))) (fun _ _ _ _ _ => (pv 6))))))), ?_⟩)
  · obtain ⟨a, b, ss, as, t, rfl, _⟩ := h
    rfl
  · obtain ⟨a, b, ss, as, t, rfl, ha, hb, hl, hn, os, oa, k⟩ := h
    repeat walk_at "rd"
    refine ⟨(show 0 ≤ sizeLine by decide), fun p0 hp0 => ?_⟩
    repeat walk_at "rd"
    refine ⟨(show 1 ≤ sizeLine by decide), fun R hR => ?_⟩
    repeat walk_at "rd"
    have e0 : Ex H (upd (upd H p0 (.tup [])) R (.lst [.ref p0])) := (Ex.new hp0).trans (Ex.new hR)
    refine r_lenTI (sqT_ex e0 hb) ?_
    repeat walk_at "rd"
    refine n_1 (by omega) ?_
    rw [Int.toNat_natCast]
    refine f_rng (fun i σ H' => ∃ (R : Addr) (vs : List V) (x4 x5 x6 x7 : Option V), σ = [some (.ref a), some (.ref b), some (.int t), some (.ref R), x4, x5, x6, x7] ∧ Ex H H' ∧ H' R = some (.lst vs) ∧ Rws K H' vs (rowsAt ss as t i)) ⟨R, _, _, _, _, _, rfl, e0, upd_same, .cons ⟨p0, rfl, sqT_up hR sqT_new⟩ .nil⟩ ?_ ?_
    · rintro i σ H1 hi ⟨R, vs, x4, x5, x6, x7, rfl, e1, hR, hrw⟩
      have his : ss[i]? = some ss[i] := List.getElem?_eq_getElem (by omega)
      have hia : as[i]? = some as[i] := List.getElem?_eq_getElem hi
      obtain ⟨sv, esv⟩ : ∃ sv, sv = ss[i] := ⟨_, rfl⟩
      obtain ⟨av, eav⟩ : ∃ av, av = as[i] := ⟨_, rfl⟩
      rw [← esv] at his
      rw [← eav] at hia
      have b1 := os sv (List.mem_of_getElem? his)
      have b2 := oa av (List.mem_of_getElem? hia)
      have hrn := rows_len (t := t) os oa i
      have h343 : 7 ^ i ≤ 49 := by
        have : i ≤ 2 := by omega
        calc 7 ^ i ≤ 7 ^ 2 := Nat.pow_le_pow_right (by decide) this
          _ = 49 := by decide
      have hvl := hrw.length
      rw [Int.zero_add]
      repeat walk_at "rd"
      refine ⟨(show 0 ≤ sizeLine by decide), fun G hG => ?_⟩
      repeat walk_at "rd"
      refine f_seq (k := .l) (sqL_up hG (sqL_of hR)) (fun u σ H2 => ∃ (ws : List V) (x6 x7 : Option V), σ = [some (.ref a), some (.ref b), some (.int t), some (.ref R), some (.int (i : Nat)), some (.ref G), x6, x7] ∧ Ex H1 H2 ∧ H2 G = some (.lst ws) ∧
        Rws K H2 ws (((rowsAt ss as t i).take u).flatMap fun r => longer (min sv av) (av + 1) t r (av + 1 - min sv av).toNat) ∧ ws.length ≤ 7 * u) ⟨[], _, _, rfl, Ex.new hG, upd_same, by rw [List.take_zero]; exact .nil, Nat.le_refl _⟩ (fun u σ H2 _ p => ?_) ?_ ?_
      · obtain ⟨_, _, _, _, e, _⟩ := p
        exact sqL_ex e (sqL_of hR)
      · rintro u x σ H2 hx ⟨ws, x6, x7, rfl, e2, hG2, hw2, l2⟩
        obtain ⟨r, er, p, rfl, hp⟩ := hrw.get hx
        have hu : u < vs.length := (List.getElem?_eq_some_iff.mp hx).1
        repeat walk_at "rd"
        refine r_ixTI (sqT_ex (e1.trans e2) ha) his ?_
        repeat walk_at "rd"
        refine r_ixTI (sqT_ex (e1.trans e2) hb) hia ?_
        repeat walk_at "rd"
        refine r_ixTI (sqT_ex (e1.trans e2) hb) hia ?_
        repeat walk_at "rd"
        refine n_2 (by omega) ?_
        refine f_rng (fun j σ H3 => ∃ (ws : List V) (x7 : Option V), σ = [some (.ref a), some (.ref b), some (.int t), some (.ref R), some (.int (i : Nat)), some (.ref G), some (.ref p), x7] ∧ Ex H1 H3 ∧ H3 G = some (.lst ws) ∧
          Rws K H3 ws (((rowsAt ss as t i).take u).flatMap (fun r => longer (min sv av) (av + 1) t r (av + 1 - min sv av).toNat) ++ longer (min sv av) (av + 1) t r j) ∧ ws.length ≤ 7 * u + j) ⟨ws, _, rfl, e2, hG2, by rw [show longer (min sv av) (av + 1) t r 0 = [] from rfl, List.append_nil]; exact hw2, by omega⟩ ?_ ?_
        · rintro j σ H3 hj ⟨ws, x7, rfl, e3, hG3, hw3, l3⟩
          repeat walk_at "rd"
          refine r_sumT (sqT_ex e3 hp) ?_
          repeat walk_at "rd"
          rw [longer_succ]
          by_cases c : r.sum + (min sv av + (j : Nat)) ≤ t
          · refine r_T (decide_eq_true c) ?_
            repeat walk_at "rd"
            refine ⟨.inl ⟨rfl, ws, sqL_of hG3⟩, ?_⟩
            repeat walk_at "rd"
            refine ⟨(show 1 ≤ sizeLine by decide), fun q hq => ?_⟩
            refine r_catT (sqT_up hq (sqT_ex e3 hp)) sqT_new ?_ fun z H4 e4 hz => ?_
            · have hw := rows_wide i r (List.mem_of_getElem? er)
              have : 4 ≤ sizeLine := by decide
              rw [List.length_map, List.length_singleton, hw]
              omega
            repeat walk_at "rd"
            have e34 := (Ex.new (o := .tup [.int (min sv av + (j : Nat))]) hq).trans e4
            have hG4 : H4 G = some (.lst ws) := e34 _ _ hG3
            refine r_app hG4 ?_ ?_
            · have : 400 < sizeLine := by decide
              omega
            repeat walk_at "rd"
            refine ⟨_, _, rfl, fun y o hy => ?_, upd_same, ?_, ?_⟩
            · have : y ≠ G := fun e => by rw [e, hG] at hy; cases hy
              exact (upd_ne this).trans (e34 _ _ (e3 y o hy))
            · rw [if_pos c, ← List.append_assoc]
              refine Rws.snoc ((hw3.ex e34).put hG4) (Row.put hG4 ⟨z, rfl, ?_⟩)
              rw [List.map_append]
              exact hz
            · rw [List.length_append, List.length_singleton]; omega
          · refine r_F (decide_eq_false c) ?_
            repeat walk_at "rd"
            rw [if_neg c, List.append_nil]
            exact ⟨ws, _, rfl, e3, hG3, hw3, by omega⟩
        · rintro σ H3 ⟨ws, x7, rfl, e3, hG3, hw3, l3⟩
          refine ⟨ws, _, _, rfl, e3, hG3, ?_, by omega⟩
          rw [List.take_add_one, er, List.flatMap_append]
          have es : ([r].flatMap fun r => longer (min sv av) (av + 1) t r (av + 1 - min sv av).toNat) = longer (min sv av) (av + 1) t r (av + 1 - min sv av).toNat := by simp
          rw [← es] at hw3
          exact hw3
      · rintro σ H2 ⟨ws, x6, x7, rfl, e2, hG2, hw2, l2⟩
        repeat walk_at "rd"
        refine ⟨G, ws, _, _, _, _, rfl, e1.trans e2, hG2, ?_⟩
        rw [List.take_of_length_le (by omega)] at hw2
        rw [rowsAt, getD_of his, getD_of hia]
        exact hw2
    · rintro σ H1 ⟨R, vs, x4, x5, x6, x7, rfl, e1, hR, hrw⟩
      have hvl := hrw.length
      have hrn := rows_len (t := t) os oa as.length
      have h343 : 7 ^ as.length ≤ 343 := by
        calc 7 ^ as.length ≤ 7 ^ 3 := Nat.pow_le_pow_right (by decide) hn
          _ = 343 := by decide
      repeat walk_at "rd"
      refine c_rows (sqL_of hR) hrw (fun r => decide (r.sum = t)) (by omega) (fun _ => rfl) ?_ ?_
      · rintro v r H2 q N hr e2 ⟨p, rfl, hp⟩ hq hN
        repeat walk_at "rd"
        refine r_sumT hp ?_
        repeat walk_at "rd"
        by_cases c : r.sum = t
        · refine r_T (decide_eq_true c) ?_
          repeat walk_at "rd"
          exact hq (decide_eq_true c) _ (Ex.refl _)
        · refine r_F (decide_eq_false c) ?_
          exact hN (decide_eq_false c) _ (Ex.refl _)
      · intro L H2 us hL e2 h2 h3
        exact k H2 L us (e1.trans e2) h2 h3
end
end K62

namespace K62
/-! the plain law of k62 -/
structure Fit (c : Int) (ss as : List Int) : Prop where
  len : ss.length = as.length
  ps : ∀ n ∈ ss, 0 ≤ n
  pa : ∀ n ∈ as, 0 ≤ n ∧ n ≤ 10000
  le : ss.sum ≤ c
theorem sum_nn : ∀ {l : List Int}, (∀ n ∈ l, 0 ≤ n) → 0 ≤ l.sum
  | [], _ => by simp
  | x :: l, h => by
    have h1 := h x (List.mem_cons_self ..)
    have h2 := sum_nn (l := l) fun n hn => h n (List.mem_cons_of_mem _ hn)
    rw [List.sum_cons]; omega
theorem Fit.pos {c : Int} {ss as : List Int} (f : Fit c ss as) : 0 ≤ c := Int.le_trans (sum_nn f.ps) f.le
theorem Fit.set {c v : Int} {ss as : List Int} {i : Nat} (f : Fit c ss as) (h : 0 ≤ v ∧ v ≤ 10000) : Fit c ss (as.set i v) := by
  refine ⟨by rw [List.length_set]; exact f.len, f.ps, fun n hn => ?_, f.le⟩
  rcases List.mem_or_eq_of_mem_set hn with hn | rfl
  · exact f.pa n hn
  · exact h
theorem sum_le {b : Int} : ∀ (l : List Int), (∀ n ∈ l, n ≤ b) → l.sum ≤ b * l.length
  | [], _ => by simp
  | x :: l, h => by
    have h1 := h x (List.mem_cons_self ..)
    have h2 := sum_le (b := b) l fun n hn => h n (List.mem_cons_of_mem _ hn)
    rw [List.sum_cons, List.length_cons, Int.natCast_add, Int.mul_add]; omega
theorem sum_pt : ∀ {xs ys : List Int}, xs.length = ys.length → (∀ (i : Nat) x y, xs[i]? = some x → ys[i]? = some y → x ≤ y) → xs.sum ≤ ys.sum
  | [], [], _, _ => by simp
  | [], _ :: _, h, _ => by cases h
  | _ :: _, [], h, _ => by cases h
  | x :: xs, y :: ys, h, k => by
    have h1 := k 0 x y rfl rfl
    have h2 := sum_pt (xs := xs) (ys := ys) (by simpa using h) fun i a b ha hb => k (i + 1) a b ha hb
    rw [List.sum_cons, List.sum_cons]; omega
/-! shares and asks in pairs -/
abbrev Pr := Int × Int
def g (p : Pr) : Int := min p.1 p.2
def b (l : Int) (p : Pr) : Int := max (g p) (min p.2 l)
def T (l : Int) (p : Pr) : Prop := b l p = l ∧ l < p.2
instance (l : Int) (p : Pr) : Decidable (T l p) := by unfold T; exact inferInstance
def B (l : Int) (ps : List Pr) : Int := (ps.map (b l)).sum
def one (l : Int) (p : Pr) : Int := if T l p then 1 else 0
def C (l : Int) (ps : List Pr) : Int := (ps.map (one l)).sum
def D (l n : Int) (ps : List Pr) : List Int := dl l n (ps.map fun p => (b l p, p.2))
theorem one_nn (l : Int) (p : Pr) : 0 ≤ one l p ∧ one l p ≤ 1 := by unfold one; split <;> omega
theorem b_succ (l : Int) (p : Pr) : b (l + 1) p = b l p + one l p := by
  by_cases h : T l p
  · unfold one
    rw [if_pos h]
    obtain ⟨h1, h2⟩ := h
    unfold b g at *
    omega
  · unfold one
    rw [if_neg h]
    have h2 : ¬ (b l p = l ∧ l < p.2) := h
    unfold b g at *
    omega
theorem B_cons (l : Int) (p : Pr) (ps : List Pr) : B l (p :: ps) = b l p + B l ps := by unfold B; rw [List.map_cons, List.sum_cons]
theorem C_cons (l : Int) (p : Pr) (ps : List Pr) : C l (p :: ps) = one l p + C l ps := by unfold C; rw [List.map_cons, List.sum_cons]
theorem C_nn (l : Int) : ∀ ps : List Pr, 0 ≤ C l ps
  | [] => by unfold C; simp
  | p :: ps => by
    have := C_nn l ps
    have := one_nn l p
    rw [C_cons]; omega
theorem B_succ (l : Int) : ∀ ps : List Pr, B (l + 1) ps = B l ps + C l ps
  | [] => by unfold B C; simp
  | p :: ps => by
    have h1 := B_succ l ps
    have h2 := b_succ l p
    rw [B_cons, B_cons, C_cons]; omega
theorem b_mono {l m : Int} (h : l ≤ m) (p : Pr) : b l p ≤ b m p := by unfold b; omega
theorem B_mono {l m : Int} (h : l ≤ m) : ∀ ps : List Pr, B l ps ≤ B m ps
  | [] => by unfold B; simp
  | p :: ps => by
    have h1 := B_mono h ps
    have h2 := b_mono h p
    rw [B_cons, B_cons]; omega
theorem D_nil (l n : Int) : D l n [] = [] := by unfold D; rw [List.map_nil, dl]
theorem D_cons (l n : Int) (p : Pr) (ps : List Pr) : D l n (p :: ps) = if 0 < n ∧ T l p then (b l p + 1) :: D l (n - 1) ps else b l p :: D l n ps := by
  unfold D T
  rw [List.map_cons, dl]
theorem D_len (l : Int) : ∀ (ps : List Pr) (n : Int), (D l n ps).length = ps.length
  | [], n => by rw [D_nil]; rfl
  | p :: ps, n => by
    rw [D_cons]
    split
    · rw [List.length_cons, List.length_cons, D_len l ps]
    · rw [List.length_cons, List.length_cons, D_len l ps]
theorem D_sum (l : Int) : ∀ (ps : List Pr) (n : Int), (D l n ps).sum = B l ps + max 0 (min n (C l ps))
  | [], n => by
    rw [D_nil]
    unfold B C
    simp only [List.sum_nil, List.map_nil]; omega
  | p :: ps, n => by
    have c0 := C_nn l ps
    rw [D_cons, B_cons, C_cons]
    by_cases h : 0 < n ∧ T l p
    · rw [if_pos h, List.sum_cons, D_sum l ps]
      have e : one l p = 1 := if_pos h.2
      omega
    · rw [if_neg h, List.sum_cons, D_sum l ps]
      by_cases h1 : 0 < n
      · have e : one l p = 0 := if_neg fun t => h ⟨h1, t⟩
        omega
      · have := one_nn l p
        omega
theorem ite_iff {p q : Prop} [Decidable p] [Decidable q] (h : p ↔ q) (x y : Int) : (if p then x else y) = if q then x else y := by
  by_cases c : p
  · rw [if_pos c, if_pos (h.mp c)]
  · rw [if_neg c, if_neg fun d => c (h.mpr d)]
/-- what the i-th gets -/
theorem D_get (l : Int) : ∀ (ps : List Pr) (n : Int) (i : Nat) (p : Pr), ps[i]? = some p → (D l n ps)[i]? = some (b l p + if C l (ps.take i) < n ∧ T l p then 1 else 0)
  | [], n, i, p, h => by cases h
  | q :: ps, n, 0, p, h => by
    cases h
    rw [D_cons, List.take_zero]
    have e : C l [] = 0 := rfl
    rw [e]
    by_cases h : 0 < n ∧ T l q
    · rw [if_pos h, if_pos h]; rfl
    · rw [if_neg h, if_neg h, Int.add_zero]; rfl
  | q :: ps, n, i + 1, p, h => by
    have h' : ps[i]? = some p := h
    have c0 := C_nn l (ps.take i)
    rw [D_cons, List.take_succ_cons, C_cons]
    by_cases h : 0 < n ∧ T l q
    · have e : one l q = 1 := if_pos h.2
      rw [if_pos h, e]
      have := D_get l ps (n - 1) i p h'
      show (D l (n - 1) ps)[i]? = _
      rw [this]
      congr 2
      refine ite_iff ?_ 1 0
      constructor <;> (rintro ⟨a, t⟩; exact ⟨by omega, t⟩)
    · rw [if_neg h]
      have := D_get l ps n i p h'
      show (D l n ps)[i]? = _
      rw [this]
      congr 2
      refine ite_iff ?_ 1 0
      by_cases h1 : 0 < n
      · have e : one l q = 0 := if_neg fun t => h ⟨h1, t⟩
        rw [e]
        constructor <;> (rintro ⟨a, t⟩; exact ⟨by omega, t⟩)
      · have := one_nn l q
        constructor <;> (rintro ⟨a, t⟩; omega)
/-! the walk's words in pairs -/
theorem got_zip (ss as : List Int) : gotOf ss as = (ss.zip as).map g := rfl
theorem base_zip (l : Int) : ∀ ss as : List Int, baseOf l (gotOf ss as) as = (ss.zip as).map (b l)
  | [], _ => by unfold baseOf gotOf; simp
  | _ :: _, [] => by unfold baseOf gotOf; simp
  | s :: ss, a :: as => by
    have := base_zip l ss as
    unfold baseOf gotOf at this ⊢
    simp only [List.zip_cons_cons, List.map_cons, this]
    rfl
theorem base_zip2 (l : Int) : ∀ ss as : List Int, ((ss.zip as).map (b l)).zip as = (ss.zip as).map fun p => (b l p, p.2)
  | [], _ => by simp
  | _ :: _, [] => by simp
  | s :: ss, a :: as => by
    have := base_zip2 l ss as
    simp only [List.zip_cons_cons, List.map_cons, this]
theorem need_zip (l : Int) : ∀ ss as : List Int, needed (gotOf ss as) as l + (gotOf ss as).sum = B l (ss.zip as)
  | [], _ => by unfold needed gotOf B; simp
  | _ :: _, [] => by unfold needed gotOf B; simp
  | s :: ss, a :: as => by
    have := need_zip l ss as
    unfold needed gotOf at this ⊢
    rw [List.zip_cons_cons, B_cons]
    simp only [List.zip_cons_cons, List.map_cons, List.sum_cons]
    have e : max 0 (min a l - min s a) + min s a = b l (s, a) := by unfold b g; show _ = max (min s a) (min a l); omega
    omega
theorem dealt_D (c l : Int) (ss as : List Int) : dealtOf c l ss as = D l (c - B l (ss.zip as)) (ss.zip as) := by
  unfold dealtOf D
  rw [base_zip, base_zip2]
  rfl
theorem level_B {c l : Int} {ss as : List Int} (h : IsLevel c l ss as) : 0 ≤ l ∧ l ≤ 10000 ∧ B l (ss.zip as) ≤ c ∧ (l < 10000 → c < B (l + 1) (ss.zip as)) := by
  obtain ⟨h1, h2, h3, h4⟩ := h
  have e1 := need_zip l ss as
  have e2 := need_zip (l + 1) ss as
  exact ⟨h1, h2, by omega, fun hl => by have := h4 hl; omega⟩
theorem zip_len {c : Int} {ss as : List Int} (f : Fit c ss as) : (ss.zip as).length = as.length := by rw [List.length_zip, f.len]; omega
theorem zip_get {ss as : List Int} {i : Nat} {p : Pr} (h : (ss.zip as)[i]? = some p) : ss[i]? = some p.1 ∧ as[i]? = some p.2 := by
  have := List.getElem?_zip_eq_some.mp (show (ss.zip as)[i]? = some (p.1, p.2) from h)
  exact this
theorem dealt_len {c L : Int} {ss as : List Int} (f : Fit c ss as) : (dealtOf c L ss as).length = as.length := by rw [dealt_D, D_len, zip_len f]
theorem tuples_len {ss as : List Int} {t : Int} (hs : ∀ n ∈ ss, 0 ≤ n ∧ n ≤ 100) (ha : ∀ n ∈ as, 0 ≤ n ∧ n ≤ 6) (h : as.length ≤ 3) : (tuplesOf ss as t).length ≤ 343 := by
  have h1 := rows_len (t := t) hs ha as.length
  have h2 : (tuplesOf ss as t).length ≤ _ := List.length_filter_le (fun r => decide (r.sum = t)) (rowsAt ss as t as.length)
  have h3 : 7 ^ as.length ≤ 343 := by
    calc 7 ^ as.length ≤ 7 ^ 3 := Nat.pow_le_pow_right (by decide) h
      _ = 343 := by decide
  omega
/-! rows -/
theorem rows_of {ss as : List Int} {t : Int} {x : List Int} (hx : x.length = as.length) (hl : ss.length = as.length) (nn : ∀ n ∈ x, 0 ≤ n) (hb : ∀ (i : Nat) s a v, ss[i]? = some s → as[i]? = some a → x[i]? = some v → min s a ≤ v ∧ v ≤ a) (ht : x.sum ≤ t) :
    ∀ i, i ≤ as.length → x.take i ∈ rowsAt ss as t i
  | 0, _ => by rw [List.take_zero, rowsAt]; exact List.mem_singleton.mpr rfl
  | i + 1, hi => by
    have ih := rows_of hx hl nn hb ht i (by omega)
    have hs : ss[i]? = some ss[i] := List.getElem?_eq_getElem (by omega)
    have ha : as[i]? = some as[i] := List.getElem?_eq_getElem (by omega)
    have hv : x[i]? = some x[i] := List.getElem?_eq_getElem (by omega)
    have bd := hb i _ _ _ hs ha hv
    rw [rowsAt, List.mem_flatMap, getD_of hs, getD_of ha]
    refine ⟨_, ih, longer_mem.mpr ⟨(x[i] - min ss[i] as[i]).toNat, by omega, ?_, ?_⟩⟩
    · have e : (x.take i).sum + x[i] + (x.drop (i + 1)).sum = x.sum := by
        have e1 : x = x.take i ++ x[i] :: x.drop (i + 1) := by
          rw [← List.drop_eq_getElem_cons (by omega), List.take_append_drop]
        conv => rhs; rw [e1]
        rw [List.sum_append, List.sum_cons]; omega
      have := sum_nn (l := x.drop (i + 1)) fun n hn => nn n (List.mem_of_mem_drop hn)
      omega
    · rw [List.take_add_one, hv]
      congr 1
      show [x[i]] = _
      congr 1
      omega
theorem rows_bd {ss as : List Int} {t : Int} : ∀ i, i ≤ as.length → ss.length = as.length → ∀ x ∈ rowsAt ss as t i, ∀ (j : Nat) s a v, ss[j]? = some s → as[j]? = some a → x[j]? = some v → min s a ≤ v ∧ v ≤ a
  | 0, _, _, x, hx, j, s, a, v, _, _, hv => by
    rw [rowsAt, List.mem_singleton] at hx
    subst hx
    cases hv
  | i + 1, hi, hl, x, hx, j, s, a, v, hs, ha, hv => by
    have his : ss[i]? = some ss[i] := List.getElem?_eq_getElem (by omega)
    have hia : as[i]? = some as[i] := List.getElem?_eq_getElem (by omega)
    rw [rowsAt, List.mem_flatMap, getD_of his, getD_of hia] at hx
    obtain ⟨r, hr, hx⟩ := hx
    obtain ⟨k, k1, _, rfl⟩ := longer_mem.mp hx
    have hw := rows_wide i r hr
    by_cases hj : j < i
    · rw [List.getElem?_append_left (by omega)] at hv
      exact rows_bd i (by omega) hl r hr j s a v hs ha hv
    · have hj2 : j < (r ++ [min ss[i] as[i] + (k : Nat)]).length := (List.getElem?_eq_some_iff.mp hv).1
      rw [List.length_append, List.length_singleton] at hj2
      have e : j = i := by omega
      subst e
      rw [List.getElem?_append_right (by omega), hw, Nat.sub_self] at hv
      cases hv
      rw [his] at hs
      rw [hia] at ha
      cases hs
      cases ha
      omega
/-! what is dealt -/
theorem b_bd {l : Int} {p : Pr} : g p ≤ b l p ∧ b l p ≤ p.2 := by unfold b g; omega
theorem f_bd {l n : Int} {ps : List Pr} {i : Nat} {p : Pr} {v : Int} (hp : ps[i]? = some p) (hv : (D l n ps)[i]? = some v) : g p ≤ v ∧ v ≤ p.2 ∧ min p.2 l ≤ v ∧ v ≤ max (g p) (l + 1) := by
  rw [D_get l ps n i p hp] at hv
  have := Option.some.inj hv
  have hb := b_bd (l := l) (p := p)
  by_cases h : C l (ps.take i) < n ∧ T l p
  · rw [if_pos h] at this
    obtain ⟨_, t1, t2⟩ := h
    unfold b g at *
    omega
  · rw [if_neg h] at this
    unfold b g at *
    omega
theorem dealt_sum {c L : Int} {ss as : List Int} (f : Fit c ss as) (h : IsLevel c L ss as) : (dealtOf c L ss as).sum = min c as.sum := by
  obtain ⟨h1, h2, h3, h4⟩ := level_B h
  have ea : as = (ss.zip as).map Prod.snd := by
    rw [List.map_snd_zip (by rw [f.len]; exact Nat.le_refl _)]
  have up : ∀ l, B l (ss.zip as) ≤ as.sum := fun l => by
    conv => rhs; rw [ea]
    unfold B
    refine sum_pt (by rw [List.length_map, List.length_map]) fun i x y hx hy => ?_
    rw [List.getElem?_map] at hx hy
    obtain ⟨p, hp, rfl⟩ := Option.map_eq_some_iff.mp hx
    rw [hp] at hy
    cases hy
    exact b_bd.2
  rw [dealt_D, D_sum]
  have bs := B_succ L (ss.zip as)
  by_cases hl : L < 10000
  · have := h4 hl
    have := up (L + 1)
    omega
  · have e : L = 10000 := by omega
    have full : as.sum ≤ B L (ss.zip as) := by
      conv => lhs; rw [ea]
      unfold B
      refine sum_pt (by rw [List.length_map, List.length_map]) fun i x y hx hy => ?_
      rw [List.getElem?_map] at hx hy
      obtain ⟨p, hp, rfl⟩ := Option.map_eq_some_iff.mp hx
      rw [hp] at hy
      cases hy
      have := f.pa p.2 (List.mem_of_getElem? (zip_get hp).2)
      unfold b
      omega
    have := up L
    have := up (L + 1)
    have := C_nn L (ss.zip as)
    omega
theorem dealt_at {c L : Int} {ss as : List Int} {i : Nat} {s a v : Int} (hs : ss[i]? = some s) (ha : as[i]? = some a) (hv : (dealtOf c L ss as)[i]? = some v) : min s a ≤ v ∧ v ≤ a ∧ min a L ≤ v ∧ v ≤ max (min s a) (L + 1) := by
  rw [dealt_D] at hv
  exact f_bd (p := (s, a)) (List.getElem?_zip_eq_some.mpr ⟨hs, ha⟩) hv
theorem m_in {c L : Int} {ss as : List Int} (f : Fit c ss as) (h : IsLevel c L ss as) : dealtOf c L ss as ∈ tuplesOf ss as (min c as.sum) := by
  have hl := dealt_len (L := L) f
  have hs := dealt_sum f h
  unfold tuplesOf
  rw [List.mem_filter]
  refine ⟨?_, decide_eq_true hs⟩
  have hb : ∀ (i : Nat) s a v, ss[i]? = some s → as[i]? = some a → (dealtOf c L ss as)[i]? = some v → min s a ≤ v ∧ v ≤ a := fun i s a v h1 h2 h3 => by
    have := dealt_at h1 h2 h3
    exact ⟨this.1, this.2.1⟩
  have := rows_of hl f.len (fun n hn => ?_) hb (Int.le_of_eq hs) as.length (Nat.le_refl _)
  · rwa [List.take_of_length_le (by omega)] at this
  · obtain ⟨i, hi, rfl⟩ := List.mem_iff_getElem.mp hn
    have h1 := f.len
    have bd := hb i _ _ _ (List.getElem?_eq_getElem (show i < ss.length by omega)) (List.getElem?_eq_getElem (show i < as.length by omega)) (List.getElem?_eq_getElem hi)
    have := f.ps ss[i] (List.getElem_mem _)
    have := f.pa as[i] (List.getElem_mem _)
    omega
/-! the fairest of all -/
theorem perm_sum {l m : List Int} (h : l.Perm m) : l.sum = m.sum := by
  induction h with
  | nil => rfl
  | cons x _ ih => rw [List.sum_cons, List.sum_cons, ih]
  | swap x y l => simp only [List.sum_cons]; omega
  | trans _ _ h1 h2 => rw [h1, h2]
theorem lex_of : ∀ {xs fs : List Int}, xs.length = fs.length → xs.Pairwise (· ≤ ·) → fs.Pairwise (· ≤ ·) → (∀ t, (xs.map (min · t)).sum ≤ (fs.map (min · t)).sum) → ¬ fs < xs
  | [], [], _, _, _, _, h => by simp at h
  | [], _ :: _, h, _, _, _, _ => by cases h
  | _ :: _, [], h, _, _, _, _ => by cases h
  | x :: xs, f :: fs, hl, hx, hf, ht, h => by
    rw [List.pairwise_cons] at hx hf
    rw [List.cons_lt_cons_iff] at h
    have hl' : xs.length = fs.length := by simpa using hl
    rcases h with h | ⟨rfl, h⟩
    · have h1 := ht x
      rw [List.map_cons, List.map_cons, List.sum_cons, List.sum_cons] at h1
      have h2 : (fs.map (min · x)).sum ≤ (xs.map (min · x)).sum := by
        refine sum_pt (by rw [List.length_map, List.length_map, hl']) fun i u v hu hv => ?_
        rw [List.getElem?_map] at hu hv
        obtain ⟨p, hp, rfl⟩ := Option.map_eq_some_iff.mp hu
        obtain ⟨q, hq, rfl⟩ := Option.map_eq_some_iff.mp hv
        have := hx.1 q (List.mem_of_getElem? hq)
        omega
      omega
    · refine lex_of hl' hx.2 hf.2 (fun t => ?_) h
      have := ht t
      rw [List.map_cons, List.map_cons, List.sum_cons, List.sum_cons] at this
      omega
theorem m_lex {c L : Int} {ss as r r' f' : List Int} (f : Fit c ss as) (h : IsLevel c L ss as) (hr : r ∈ tuplesOf ss as (min c as.sum)) (p1 : r'.Perm r) (s1 : r'.Pairwise (· ≤ ·)) (p2 : f'.Perm (dealtOf c L ss as)) (s2 : f'.Pairwise (· ≤ ·)) : ¬ f' < r' := by
  unfold tuplesOf at hr
  rw [List.mem_filter] at hr
  obtain ⟨hr, hrs⟩ := hr
  have hrs := of_decide_eq_true hrs
  have rl := rows_wide _ r hr
  have fl := dealt_len (L := L) f
  have fs := dealt_sum f h
  have rb := rows_bd as.length (Nat.le_refl _) f.len r hr
  have hlen := f.len
  have at_ : ∀ (i : Nat) u v, r[i]? = some u → (dealtOf c L ss as)[i]? = some v → ∃ s a, min s a ≤ u ∧ u ≤ a ∧ min s a ≤ v ∧ v ≤ a ∧ min a L ≤ v ∧ v ≤ max (min s a) (L + 1) := fun i u v hu hv => by
    have hi : i < r.length := (List.getElem?_eq_some_iff.mp hu).1
    have his : ss[i]? = some ss[i] := List.getElem?_eq_getElem (by omega)
    have hia : as[i]? = some as[i] := List.getElem?_eq_getElem (by omega)
    have b1 := rb i _ _ _ his hia hu
    have b2 := dealt_at his hia hv
    exact ⟨_, _, b1.1, b1.2, b2⟩
  refine lex_of (by rw [p1.length_eq, p2.length_eq]; omega) s1 s2 fun t => ?_
  rw [perm_sum (p1.map _), perm_sum (p2.map _)]
  by_cases ht : t ≤ L
  · refine sum_pt (by rw [List.length_map, List.length_map]; omega) fun i u v hu hv => ?_
    rw [List.getElem?_map] at hu hv
    obtain ⟨p, hp, rfl⟩ := Option.map_eq_some_iff.mp hu
    obtain ⟨q, hq, rfl⟩ := Option.map_eq_some_iff.mp hv
    obtain ⟨s, a, h1, h2, h3, h4, h5, h6⟩ := at_ i p q hp hq
    omega
  · have key : ((dealtOf c L ss as).map fun x => x - min x t).sum ≤ (r.map fun x => x - min x t).sum := by
      refine sum_pt (by rw [List.length_map, List.length_map]; omega) fun i u v hu hv => ?_
      rw [List.getElem?_map] at hu hv
      obtain ⟨p, hp, rfl⟩ := Option.map_eq_some_iff.mp hu
      obtain ⟨q, hq, rfl⟩ := Option.map_eq_some_iff.mp hv
      obtain ⟨s, a, h1, h2, h3, h4, h5, h6⟩ := at_ i q p hq hp
      omega
    have sub : ∀ l : List Int, (l.map fun x => x - min x t).sum = l.sum - (l.map (min · t)).sum := fun l => by
      induction l with
      | nil => rfl
      | cons x l ih => rw [List.map_cons, List.map_cons, List.sum_cons, List.sum_cons, List.sum_cons, ih]; omega
    rw [sub, sub] at key
    omega
/-! asking more, others asking less -/
theorem B_set (l : Int) : ∀ {ps : List Pr} {i : Nat} {p q : Pr}, ps[i]? = some p → B l (ps.set i q) = B l ps - b l p + b l q
  | [], i, p, q, h => by cases h
  | r :: ps, 0, p, q, h => by
    cases h
    rw [List.set_cons_zero, B_cons, B_cons]; omega
  | r :: ps, i + 1, p, q, h => by
    rw [List.set_cons_succ, B_cons, B_cons, B_set l (show ps[i]? = some p from h)]; omega
theorem zip_set : ∀ (ss as : List Int) (i : Nat) (v s : Int), ss[i]? = some s → ss.zip (as.set i v) = (ss.zip as).set i (s, v)
  | [], _, i, v, s, h => by cases h
  | _ :: _, [], i, v, s, h => by simp
  | _ :: ss, a :: as, 0, v, s, h => by cases h; rfl
  | x :: ss, a :: as, i + 1, v, s, h => by
    rw [List.set_cons_succ, List.zip_cons_cons, List.zip_cons_cons, List.set_cons_succ, zip_set ss as i v s h]
theorem m_up {c L L' v x y : Int} {ss as : List Int} {i : Nat} (f : Fit c ss as) (h : IsLevel c L ss as) (hv : as[i]? = some v) (h' : IsLevel c L' ss (as.set i (v + 1))) (hx : (dealtOf c L' ss (as.set i (v + 1)))[i]? = some x) (hy : (dealtOf c L ss as)[i]? = some y) : y ≤ x := by
  have hi : i < as.length := (List.getElem?_eq_some_iff.mp hv).1
  have hlen := f.len
  obtain ⟨s, hs⟩ : ∃ s, ss[i]? = some s := ⟨_, List.getElem?_eq_getElem (by omega)⟩
  have v10 := f.pa v (List.mem_of_getElem? hv)
  obtain ⟨l0, l1, l2, l3⟩ := level_B h
  obtain ⟨m0, m1, m2, m3⟩ := level_B h'
  rw [zip_set ss as i (v + 1) s hs] at m2 m3
  rw [dealt_D] at hx hy
  rw [zip_set ss as i (v + 1) s hs] at hx
  have hp : (ss.zip as)[i]? = some (s, v) := List.getElem?_zip_eq_some.mpr ⟨hs, hv⟩
  generalize ss.zip as = ps at *
  have hip : i < ps.length := (List.getElem?_eq_some_iff.mp hp).1
  have hp' : (ps.set i (s, v + 1))[i]? = some (s, v + 1) := List.getElem?_set_self hip
  have by1 := f_bd hp hy
  have bx1 := f_bd hp' hx
  have g1 : g (s, v) = min s v := rfl
  have g2 : g (s, v + 1) = min s (v + 1) := rfl
  rw [g1] at by1
  rw [g2] at bx1
  simp only at by1 bx1
  by_cases c1 : v < s
  · omega
  have same : ∀ l, l ≤ v → B l (ps.set i (s, v + 1)) = B l ps := fun l hl => by
    rw [B_set l hp]
    have : b l (s, v) = b l (s, v + 1) := by
      unfold b; rw [g1, g2]; simp only; omega
    omega
  by_cases c2 : v ≤ L
  · by_cases c3 : v ≤ L'
    · omega
    · exfalso
      have := m3 (by omega)
      rw [same (L' + 1) (by omega)] at this
      have := B_mono (show L' + 1 ≤ L by omega) ps
      omega
  · have e1 := same L (by omega)
    have e2 := same (L + 1) (by omega)
    have hl := l3 (by omega)
    have eL : L' = L := by
      by_cases d1 : L' < L
      · have := m3 (by omega)
        have := B_mono (show L' + 1 ≤ L by omega) (ps.set i (s, v + 1))
        omega
      · by_cases d2 : L < L'
        · have := B_mono (show L + 1 ≤ L' by omega) (ps.set i (s, v + 1))
          omega
        · omega
    subst eL
    rw [D_get _ _ _ i _ hp] at hy
    rw [D_get _ _ _ i _ hp', e1, List.take_set_of_le (Nat.le_refl _)] at hx
    have hy := Option.some.inj hy
    have hx := Option.some.inj hx
    have eb : b L' (s, v + 1) = b L' (s, v) := by unfold b; rw [g1, g2]; simp only; omega
    by_cases t : C L' (ps.take i) < c - B L' ps ∧ T L' (s, v)
    · have t' : C L' (ps.take i) < c - B L' ps ∧ T L' (s, v + 1) := by
        refine ⟨t.1, ?_, ?_⟩
        · rw [eb]; exact t.2.1
        · have := t.2.2
          simp only at this ⊢
          omega
      rw [if_pos t] at hy
      rw [if_pos t'] at hx
      omega
    · rw [if_neg t] at hy
      split at hx <;> omega
theorem C_set_le {l : Int} {q : Pr} : ∀ {ps : List Pr} {o : Nat} {p : Pr} (k : Nat), ps[o]? = some p → (T l q → T l p) → C l ((ps.set o q).take k) ≤ C l (ps.take k)
  | [], o, p, k, h, _ => by cases h
  | r :: ps, o, p, 0, h, _ => by rw [List.take_zero, List.take_zero]; exact Int.le_refl _
  | r :: ps, 0, p, k + 1, h, t => by
    cases h
    rw [List.set_cons_zero, List.take_succ_cons, List.take_succ_cons, C_cons, C_cons]
    have : one l q ≤ one l r := by
      unfold one
      by_cases c : T l q
      · rw [if_pos c, if_pos (t c)]; exact Int.le_refl _
      · rw [if_neg c]; split <;> decide
    omega
  | r :: ps, o + 1, p, k + 1, h, t => by
    rw [List.set_cons_succ, List.take_succ_cons, List.take_succ_cons, C_cons, C_cons]
    have := C_set_le (l := l) (q := q) (ps := ps) (o := o) (p := p) k h t
    omega
theorem m_dn {c L L' v x y : Int} {ss as : List Int} {i o : Nat} (f : Fit c ss as) (h : IsLevel c L ss as) (hv : as[o]? = some v) (v0 : 0 < v) (ne : o ≠ i) (h' : IsLevel c L' ss (as.set o (v + -1))) (hx : (dealtOf c L' ss (as.set o (v + -1)))[i]? = some x) (hy : (dealtOf c L ss as)[i]? = some y) : y ≤ x := by
  have ho : o < as.length := (List.getElem?_eq_some_iff.mp hv).1
  have hlen := f.len
  obtain ⟨s, hs⟩ : ∃ s, ss[o]? = some s := ⟨_, List.getElem?_eq_getElem (by omega)⟩
  obtain ⟨l0, l1, l2, l3⟩ := level_B h
  obtain ⟨m0, m1, m2, m3⟩ := level_B h'
  rw [zip_set ss as o (v + -1) s hs] at m2 m3
  rw [dealt_D] at hx hy
  rw [zip_set ss as o (v + -1) s hs] at hx
  have hp : (ss.zip as)[o]? = some (s, v) := List.getElem?_zip_eq_some.mpr ⟨hs, hv⟩
  have hyl : i < (ss.zip as).length := by
    have := (List.getElem?_eq_some_iff.mp hy).1
    rwa [D_len] at this
  generalize ss.zip as = ps at *
  obtain ⟨p, hpi⟩ : ∃ p, ps[i]? = some p := ⟨_, List.getElem?_eq_getElem hyl⟩
  have hpi' : (ps.set o (s, v + -1))[i]? = some p := by rw [List.getElem?_set_ne ne]; exact hpi
  have g1 : g (s, v) = min s v := rfl
  have g2 : g (s, v + -1) = min s (v + -1) := rfl
  have less : ∀ l, B l (ps.set o (s, v + -1)) ≤ B l ps := fun l => by
    rw [B_set l hp]
    have : b l (s, v + -1) ≤ b l (s, v) := by unfold b; rw [g1, g2]; simp only; omega
    omega
  have hL : L ≤ L' := by
    by_cases d : L ≤ L'
    · exact d
    · exfalso
      have := m3 (by omega)
      have := less (L' + 1)
      have := B_mono (show L' + 1 ≤ L by omega) ps
      omega
  rw [D_get _ _ _ i _ hpi] at hy
  rw [D_get _ _ _ i _ hpi'] at hx
  have hy := Option.some.inj hy
  have hx := Option.some.inj hx
  by_cases d : L < L'
  · have hm := b_mono (show L + 1 ≤ L' by omega) p
    rw [b_succ] at hm
    have : y ≤ b L p + one L p := by
      unfold one
      by_cases t : T L p
      · rw [if_pos t]; split at hy <;> omega
      · rw [if_neg fun k => t k.2] at hy
        rw [if_neg t]; omega
    split at hx <;> omega
  · have e : L' = L := by omega
    subst e
    have hc := C_set_le (l := L') (q := (s, v + -1)) i hp (fun t => by
      obtain ⟨t1, t2⟩ := t
      unfold T
      unfold b at *
      rw [g2] at t1
      rw [g1]
      simp only at t1 t2 ⊢
      omega)
    have hb := less L'
    by_cases t : C L' (ps.take i) < c - B L' ps ∧ T L' p
    · rw [if_pos t] at hy
      rw [if_pos ⟨by omega, t.2⟩] at hx
      omega
    · rw [if_neg t] at hy
      split at hx <;> omega
end K62

namespace K62
section
variable {P : Program} {w : World} {K : PySem.W.Frag} {mg : Str → Option Value} {base : Heap}
abbrev s__law_with_ask : Stmt := top 18
theorem sc__law_with_ask : FnScope ["asks", "at", "by"] ["asks", "at", "by"] (defScope s__law_with_ask) := ⟨rfl, rfl, rfl, by decide +kernel, rfl, by decide +kernel, by decide +kernel⟩
def sp_with_ask (K : PySem.W.Frag) : Sp := fun vs H Q _ => ∃ (a : Addr) (ns : List Int) (i : Nat) (v by_ : Int), vs = [.ref a, .int (i : Nat), .int by_] ∧ SqT K H a (ns.map V.int) ∧ ns[i]? = some v ∧ ns.length < 1000 ∧ ∀ H' p, Ex H H' → SqT K H' p ((ns.set i (v + by_)).map V.int) → Q (.ref p) H'
theorem ok__law_with_ask (C : Cx0 K mg base) : Cal P w K mg base 1 "_law_with_ask" ["asks", "at", "by"] (sp_with_ask K) := by
  refine C.cal 10 10 rfl rfl sc__law_with_ask (fun _ _ _ _ _ _ us hl => match us, hl with | [_, _, _], _ => rfl) (fun vs H Q E h => ?_) (fun f cdv A outer s H vs Q E hr h => ⟨_, PSs.nox
    (pss_one (ps_ret (pe_op (k_add (K := K) rfl) (pe_op (k_add (K := K) rfl) (pe_slice (k_sl (K := K) rfl) (pv 0) po_none (po_some (pv 1))) (pe_tup (pa_cons (pe_op (k_add (K := K) rfl) (pe_ix (k_ix (K := K) rfl) (pv 0) (pv 1) (fun _ _ => rfl)) (pv 2)) pa_nil))) (pe_slice (k_sl (K := K) rfl) (pv 0) (po_some (pe_op (k_add (K := K) rfl) (pv 1) pe_int)) po_none)))), ?_⟩)
  · obtain ⟨a, ns, i, v, b, rfl, _⟩ := h
    rfl
  · obtain ⟨a, ns, i, v, b, rfl, ha, hv, hn, k⟩ := h
    have hi : i < ns.length := (List.getElem?_eq_some_iff.mp hv).1
    have big : 4000 ≤ sizeLine := by decide
    repeat walk_at "rd"
    refine r_slT ha fun p1 H1 e1 h1 => ?_
    rw [cut_lo] at h1
    repeat walk_at "rd"
    refine r_ixTI (sqT_ex e1 ha) hv ?_
    repeat walk_at "rd"
    refine ⟨(show 1 ≤ sizeLine by decide), fun q hq => ?_⟩
    refine r_catT (sqT_up hq h1) sqT_new (by rw [List.length_take, List.length_map, List.length_singleton]; omega) fun p2 H2 e2 h2 => ?_
    have e02 := (e1.trans (Ex.new (o := .tup [.int (v + b)]) hq)).trans e2
    repeat walk_at "rd"
    refine r_slT (sqT_ex e02 ha) fun p3 H3 e3 h3 => ?_
    have ei : ((i : Int) + 1) = ((i + 1 : Nat) : Int) := by omega
    rw [ei, cut_hi] at h3
    refine r_catT (sqT_ex e3 h2) h3 (by rw [List.length_append, List.length_take, List.length_drop, List.length_map, List.length_singleton]; omega) fun p4 H4 e4 h4 => ?_
    refine k H4 p4 (e02.trans (e3.trans e4)) ?_
    have es : (ns.set i (v + b)).map V.int = (ns.map V.int).take i ++ [.int (v + b)] ++ (ns.map V.int).drop (i + 1) := by
      rw [List.set_eq_take_append_cons_drop, if_pos hi, List.map_append, List.map_cons, List.map_take, List.map_drop, List.append_assoc]; rfl
    rw [es]
    exact h4

abbrev s__law_right : Stmt := top 19
theorem sc__law_right : FnScope ["dice", "many", "shares", "asks", "at", "capacity", "found", "rows", "row", "other"] ["dice"] (defScope s__law_right) := ⟨rfl, rfl, rfl, by decide +kernel, rfl, by decide +kernel, by decide +kernel⟩
def sp_right : Sp := fun vs H Q _ => ∃ d, vs = [.ref d] ∧ Dice 0 H d ∧ ∀ H', ExB d H H' → Q (.bl true) H'
theorem ok__law_right (C : Cx0 K mg base) : Cal P w K mg base 5 "_law_right" ["dice"] sp_right := by
  have c__law_roll := ok__law_roll (P := P) (w := w) C
  have c__law_pick := ok__law_pick (P := P) (w := w) C
  have c_dealt := ok_dealt (P := P) (w := w) C
  have c__law_tuples := ok__law_tuples (P := P) (w := w) C
  have c__law_with_ask := ok__law_with_ask (P := P) (w := w) C
  refine C.cal 11 11 rfl rfl sc__law_right (fun _ _ _ _ _ _ us hl => match us, hl with | [_], _ => rfl) (fun vs H Q E h => ?_) (fun f cdv A outer s H vs Q E hr h => ⟨_, PSs.nox
    (pss_cons (ps_set (i := 1) sc__law_right.nd rfl (Or.inl rfl) (pe_f c__law_pick hr (by decide) passL (pa_cons (pv 0) (pa_cons (pe_lst (pa_cons pe_int (pa_cons pe_int (pa_cons pe_int pa_nil)))) pa_nil))))
      (pss_cons (ps_par (i := 2) (j := 3) rfl sc__law_right.nd rfl rfl (by decide) rfl rfl (pa_cons (pe_bt (k_tuple (K := K) rfl) (C.free 16) (by decide +kernel) (pa_cons (pe_lc (own := [("at", 4)]) rfl sc__law_right.nd (pi_range1 rfl (C.free 17) (pa_cons (pv 1) pa_nil)) (blkOk_by (N := ["dice", "many", "shares", "asks", "at", "capacity", "found", "rows", "row", "other"]) (sc := defScope s__law_right) (by decide +kernel)) (fun _ _ _ _ _ => (pg_name (i := 4) sc__law_right.nd rfl (Or.inl rfl))) (fun _ _ _ _ _ => pts_nil) (fun _ _ _ _ _ => (pe_f c__law_roll hr (by decide) passL (pa_cons (pv 0) (pa_cons pe_int pa_nil))))) pa_nil)) (pa_cons (pe_bt (k_tuple (K := K) rfl) (C.free 16) (by decide +kernel) (pa_cons (pe_lc (own := [("at", 4)]) rfl sc__law_right.nd (pi_range1 rfl (C.free 17) (pa_cons (pv 1) pa_nil)) (blkOk_by (N := ["dice", "many", "shares", "asks", "at", "capacity", "found", "rows", "row", "other"]) (sc := defScope s__law_right) (by decide +kernel)) (fun _ _ _ _ _ => (pg_name (i := 4) sc__law_right.nd rfl (Or.inl rfl))) (fun _ _ _ _ _ => pts_nil) (fun _ _ _ _ _ => (pe_f c__law_roll hr (by decide) passL (pa_cons (pv 0) (pa_cons pe_int pa_nil))))) pa_nil)) pa_nil)) (by rfl))
      (pss_cons (ps_set (i := 5) sc__law_right.nd rfl (Or.inl rfl) (pe_op (k_add (K := K) rfl) (pe_bi (k_sum (K := K) rfl rfl) (C.free 20) (by decide +kernel) (pa_cons (pv 2) pa_nil)) (pe_f c__law_roll hr (by decide) passL (pa_cons (pv 0) (pa_cons pe_int pa_nil)))))
      (pss_cons (ps_set (i := 6) sc__law_right.nd rfl (Or.inr rfl) (pe_f c_dealt hr (by decide) passL (pa_cons (pv 5) (pa_cons (pv 2) (pa_cons (pv 3) pa_nil)))))
      (pss_cons (ps_set (i := 7) sc__law_right.nd rfl (Or.inl rfl) (pe_f c__law_tuples hr (by decide) passL (pa_cons (pv 2) (pa_cons (pv 3) (pa_cons (pe_bi (cr_min2 rfl) (C.free 21) (by decide +kernel) (pa_cons (pv 5) (pa_cons (pe_bi (k_sum (K := K) rfl rfl) (C.free 20) (by decide +kernel) (pa_cons (pv 3) pa_nil)) pa_nil))) pa_nil)))))
      (pss_cons (ps_if (PW.pt (pw_or (pt_cmpR (k_nin (K := K) rfl hr) (pv 6) (pv 7) (by rfl)) (pw_or1 (pt_cmpR (k_ne (K := K) rfl hr) (pe_lc (own := [("row", 8)]) rfl sc__law_right.nd (k_seq (K := K) rfl (pv 7)) (blkOk_by (N := ["dice", "many", "shares", "asks", "at", "capacity", "found", "rows", "row", "other"]) (sc := defScope s__law_right) (by decide +kernel)) (fun _ _ _ _ _ => (pg_name (i := 8) sc__law_right.nd rfl (Or.inl rfl))) (fun _ _ _ _ _ => pts_one (pt_cmpR (k_gt (K := K) rfl hr) (pe_bi (k_sorted (K := K) rfl) (C.free 28) (by decide +kernel) (pa_cons (pv 8) pa_nil)) (pe_bi (k_sorted (K := K) rfl) (C.free 28) (by decide +kernel) (pa_cons (pv 6) pa_nil)) (nomark _))) (fun _ _ _ _ _ => (pv 8))) (pe_lst pa_nil) (nomark _))))) (pss_one (ps_ret pe_bl)) pss_nil)
      (pss_cons (ps_for PassesOwn.never rfl (pi_range1 rfl (C.free 17) (pa_cons (pv 1) pa_nil)) (pg_name (i := 4) sc__law_right.nd rfl (Or.inl rfl))
      (pss_cons (ps_if (pt_cmpR (k_lt (K := K) rfl hr) (pe_ix (k_ix (K := K) rfl) (pe_f c_dealt hr (by decide) passL (pa_cons (pv 5) (pa_cons (pv 2) (pa_cons (pe_f c__law_with_ask hr (by decide) passL (pa_cons (pv 3) (pa_cons (pv 4) (pa_cons pe_int pa_nil)))) pa_nil)))) (pv 4) (fun _ _ => rfl)) (pe_ix (k_ix (K := K) rfl) (pv 6) (pv 4) (fun _ _ => rfl)) (nomark _)) (pss_one (ps_ret pe_bl)) pss_nil)
      (pss_one (ps_for PassesOwn.never rfl (pi_range1 rfl (C.free 17) (pa_cons (pv 1) pa_nil)) (pg_name (i := 9) sc__law_right.nd rfl (Or.inl rfl))
      (pss_one (ps_if (PW.pt (pw_and (pt_cmpR (k_ne (K := K) rfl hr) (pv 9) (pv 4) (nomark _)) (pw_and (pt_cmpR (k_gt (K := K) rfl hr) (pe_ix (k_ix (K := K) rfl) (pv 3) (pv 9) (fun _ _ => rfl)) pe_int (nomark _)) (pw_and1 (pt_cmpR (k_lt (K := K) rfl hr) (pe_ix (k_ix (K := K) rfl) (pe_f c_dealt hr (by decide) passL (pa_cons (pv 5) (pa_cons (pv 2) (pa_cons (pe_f c__law_with_ask hr (by decide) passL (pa_cons (pv 3) (pa_cons (pv 9) (pa_cons (pe_un un_neg pe_int) pa_nil)))) pa_nil)))) (pv 4) (fun _ _ => rfl)) (pe_ix (k_ix (K := K) rfl) (pv 6) (pv 4) (fun _ _ => rfl)) (nomark _)))))) (pss_one (ps_ret pe_bl)) pss_nil))))))
      (pss_one (ps_ret pe_bl))))))))), ?_⟩)
  · obtain ⟨d, rfl, _⟩ := h
    rfl
  · obtain ⟨d, rfl, hd, k⟩ := h
    repeat walk_at "rd"
    refine ⟨(show 3 ≤ sizeLine by decide), fun p0 hp0 => ?_⟩
    repeat walk_at "rd"
    refine ⟨d, p0, .l, _, 0, rfl, hd.fresh hp0, by decide, hd.ne hp0, sqL_new, (show 0 < 3 by decide), (show 3 < 1000000 by decide), fun i v H1 hv e1 d1 => ?_⟩
    have ex1 : ExB d H H1 := (ExB.of (Ex.new hp0)).trans e1
    obtain ⟨m, rfl, m2, m3⟩ : ∃ m : Nat, v = .int (m : Int) ∧ 2 ≤ m ∧ m ≤ 3 := by
      match i, hv with
      | 0, hv => cases hv; exact ⟨2, rfl, by decide, by decide⟩
      | 1, hv => cases hv; exact ⟨3, rfl, by decide, by decide⟩
      | 2, hv => cases hv; exact ⟨3, rfl, by decide, by decide⟩
      | i + 3, hv => cases hv
    repeat walk_at "rd"
    refine n_1 (by omega) ?_
    rw [Int.toNat_natCast]
    refine c_dice (t := 4) d1 (by omega) (fun _ => rfl) ?_ ?_
    · intro i H2 q N hi e2 d2 hq
      repeat walk_at "rd"
      exact ⟨d, 4, _, rfl, d2, by omega, by decide, by decide, hq⟩
    intro La H2 ss hLa ne1 e2 h2 l2 o2 d2
    repeat walk_at "rd"
    refine r_tupL (sqL_of h2) fun p1 hp1 => ?_
    repeat walk_at "rd"
    have ex2 := (ex1.trans e2).trans (ExB.of (Ex.new (o := .tup (ss.map V.int)) hp1))
    have n1 : p1 ≠ d := d2.ne hp1
    refine n_1 (by omega) ?_
    rw [Int.toNat_natCast]
    refine c_dice (t := 7) (d2.fresh hp1) (by omega) (fun _ => rfl) ?_ ?_
    · intro i H3 q N hi e3 d3 hq
      repeat walk_at "rd"
      exact ⟨d, 7, _, rfl, d3, by omega, by decide, by decide, hq⟩
    intro Lb H3 as hLb ne2 e3 h3 l3 o3 d3
    repeat walk_at "rd"
    refine r_tupL (sqL_of h3) fun p2 hp2 => ?_
    repeat walk_at "rd"
    have ex3 := (ex2.trans e3).trans (ExB.of (Ex.new (o := .tup (as.map V.int)) hp2))
    have n2 : p2 ≠ d := d3.ne hp2
    have s1 := sqT_ex (K := K) (Ex.new (o := .tup (as.map V.int)) hp2) (sqT_exb e3 n1 sqT_new)
    refine r_sumT s1 ?_
    repeat walk_at "rd"
    refine ⟨d, 8, _, rfl, d3.fresh hp2, by omega, by decide, by decide, fun r H4 r0 r1 e4 d4 => ?_⟩
    have ex4 := ex3.trans e4
    have hs := sqT_exb e4 n1 s1
    have ha := sqT_exb (K := K) e4 n2 sqT_new
    clear s1
    obtain ⟨c, hc⟩ : ∃ c, c = ss.sum + r := ⟨_, rfl⟩
    repeat walk_at "rd"
    rw [← hc]
    have fit : Fit c ss as := ⟨by omega, fun n hn => (o2 n hn).1, fun n hn => ⟨(o3 n hn).1, by have := o3 n hn; omega⟩, by omega⟩
    have c0 : 0 ≤ c := fit.pos
    have c1 : c ≤ 10000 := by
      have := sum_le (b := 4) ss fun n hn => Int.le_of_lt (o2 n hn).2
      omega
    have oks : okAm ss := ⟨by omega, by omega, fun n hn => ⟨(o2 n hn).1, by have := o2 n hn; omega⟩⟩
    have oka : okAm as := ⟨by omega, by omega, fun n hn => ⟨(o3 n hn).1, by have := o3 n hn; omega⟩⟩
    refine ⟨c, p1, p2, ss, as, rfl, hs, ha, c0, c1, oks, oka, by omega, by omega, fun H5 p3 L e5 f5 lev hf => ?_⟩
    have hf := sqT_of (K := K) hf
    obtain ⟨fs, efs⟩ : ∃ fs, fs = dealtOf c L ss as := ⟨_, rfl⟩
    rw [← efs] at hf
    have lf : fs.length = as.length := by rw [efs, dealt_len fit]
    repeat walk_at "rd"
    refine r_sumT (sqT_ex e5 ha) ?_
    repeat walk_at "rd"
    refine ⟨p1, p2, ss, as, _, rfl, sqT_ex e5 hs, sqT_ex e5 ha, by omega, by omega, fun n hn => ⟨(o2 n hn).1, by have := o2 n hn; omega⟩, fun n hn => ⟨(o3 n hn).1, by have := o3 n hn; omega⟩, fun H6 p4 us e6 h6 hr6 => ?_⟩
    repeat walk_at "rd"
    have hf6 := sqT_ex e6 hf
    refine r_ninR hf6 (sqL_of h6) hr6 ?_
    have hin : fs ∈ tuplesOf ss as (min c as.sum) := by rw [efs]; exact m_in fit lev
    rw [decide_eq_true hin]
    repeat walk_at "rd"
    have ul := hr6.length
    refine c_rows (sqL_of h6) hr6 (fun _ => false) (by have := tuples_len (t := min c as.sum) (fun n hn => ⟨(o2 n hn).1, by have := o2 n hn; omega⟩) (fun n hn => ⟨(o3 n hn).1, by have := o3 n hn; omega⟩) (show as.length ≤ 3 by omega); omega) (fun _ => rfl) ?_ ?_
    · rintro v r H7 q N hr e7 ⟨p, rfl, hp⟩ hq hN
      repeat walk_at "rd"
      refine r_sortedT hp fun r' q1 per1 srt1 hq1 => ?_
      repeat walk_at "rd"
      refine r_sortedT (sqT_up hq1 (sqT_ex e7 hf6)) fun f' q2 per2 srt2 hq2 => ?_
      refine r_gtLL (sqL_up hq2 sqL_new) sqL_new ?_
      repeat walk_at "rd"
      rw [efs] at per2
      refine r_F (decide_eq_false (m_lex fit lev hr per1 srt1 per2 srt2)) ?_
      exact hN rfl _ ((Ex.new hq1).trans (Ex.new hq2))
    intro L7 H7 vs7 hL7 e7 h7 hr7
    rw [List.filter_eq_nil_iff.mpr (fun _ _ => Bool.false_ne_true)] at hr7
    cases hr7
    repeat walk_at "rd"
    refine ⟨(show 0 ≤ sizeLine by decide), fun q hq => ?_⟩
    refine r_ne00 (sqL_up hq (sqL_of h7)) sqL_new ?_
    repeat walk_at "rd"
    have e48 := (e5.trans e6).trans (e7.trans (Ex.new (o := .lst []) hq))
    have e58 := e6.trans (e7.trans (Ex.new (o := .lst []) hq))
    refine n_1 (by omega) ?_
    rw [Int.toNat_natCast]
    refine f_rng (fun i σ H' => ∃ x4 x9 : Option V, σ = [some (.ref d), some (.int (m : Int)), some (.ref p1), some (.ref p2), x4, some (.int c), some (.ref p3), some (.ref p4), none, x9] ∧ Ex H5 H') ⟨_, _, rfl, e58⟩ ?_ ?_
    · rintro i σ H8 hi ⟨x4, x9, rfl, e8⟩
      rw [Int.zero_add]
      have hia : as[i]? = some as[i] := List.getElem?_eq_getElem (by omega)
      have hif : fs[i]? = some fs[i] := List.getElem?_eq_getElem (by omega)
      have ev : as[i] ∈ as := List.getElem_mem _
      repeat walk_at "rd"
      refine ⟨p2, as, i, as[i], 1, rfl, sqT_ex (e5.trans e8) ha, hia, by omega, fun H9 p5 e9 h9 => ?_⟩
      have e49 := (e5.trans e8).trans e9
      have fit' : Fit c ss (as.set i (as[i] + 1)) := fit.set (by have := o3 _ ev; omega)
      refine ⟨c, p1, p5, ss, _, rfl, sqT_ex e49 hs, h9, c0, c1, oks, ⟨by rw [List.length_set]; omega, by rw [List.length_set]; omega, fun n hn => ?_⟩, by rw [List.length_set]; omega, by omega, fun H10 p6 L' e10 f10 lev' hf10 => ?_⟩
      · rcases List.mem_or_eq_of_mem_set hn with hn | rfl
        · have := o3 n hn; omega
        · have := o3 _ ev; omega
      have lf' := dealt_len (L := L') fit'
      rw [List.length_set] at lf'
      have hig : (dealtOf c L' ss (as.set i (as[i] + 1)))[i]? = some (dealtOf c L' ss (as.set i (as[i] + 1)))[i] := List.getElem?_eq_getElem (by omega)
      repeat walk_at "rd"
      refine r_ixTI (sqT_of hf10) hig ?_
      repeat walk_at "rd"
      have e510 := (e8.trans e9).trans e10
      refine r_ixTI (sqT_ex e510 hf) hif ?_
      repeat walk_at "rd"
      refine r_F (decide_eq_false ?_) ?_
      · have := m_up fit lev hia lev' hig (by rw [← efs]; exact hif)
        omega
      repeat walk_at "rd"
      refine n_1 (by omega) ?_
      rw [Int.toNat_natCast]
      refine f_rng (fun o σ H' => ∃ x9 : Option V, σ = [some (.ref d), some (.int (m : Int)), some (.ref p1), some (.ref p2), some (.int (i : Nat)), some (.int c), some (.ref p3), some (.ref p4), none, x9] ∧ Ex H5 H') ⟨_, rfl, e510⟩ ?_ ?_
      · rintro o σ H11 ho ⟨x9, rfl, e11⟩
        rw [Int.zero_add]
        have hoa : as[o]? = some as[o] := List.getElem?_eq_getElem (by omega)
        have evo : as[o] ∈ as := List.getElem_mem _
        repeat walk_at "rd"
        by_cases c2 : (o : Int) = (i : Int)
        · refine r_F (by rw [decide_eq_true c2]; rfl) ?_
          repeat walk_at "rd"
          exact ⟨_, rfl, e11⟩
        refine r_T (by rw [decide_eq_false c2]; rfl) ?_
        repeat walk_at "rd"
        refine r_ixTI (sqT_ex (e5.trans e11) ha) hoa ?_
        repeat walk_at "rd"
        by_cases c3 : 0 < as[o]
        · refine r_T (decide_eq_true c3) ?_
          repeat walk_at "rd"
          refine ⟨p2, as, o, as[o], -1, rfl, sqT_ex (e5.trans e11) ha, hoa, by omega, fun H9 p5 e9 h9 => ?_⟩
          have e49 := (e5.trans e11).trans e9
          have fit' : Fit c ss (as.set o (as[o] + -1)) := fit.set (by have := o3 _ evo; omega)
          refine ⟨c, p1, p5, ss, _, rfl, sqT_ex e49 hs, h9, c0, c1, oks, ⟨by rw [List.length_set]; omega, by rw [List.length_set]; omega, fun n hn => ?_⟩, by rw [List.length_set]; omega, by omega, fun H10 p6 L' e10 f10 lev' hf10 => ?_⟩
          · rcases List.mem_or_eq_of_mem_set hn with hn | rfl
            · have := o3 n hn; omega
            · have := o3 _ evo; omega
          have lf' := dealt_len (L := L') fit'
          rw [List.length_set] at lf'
          have hig : (dealtOf c L' ss (as.set o (as[o] + -1)))[i]? = some (dealtOf c L' ss (as.set o (as[o] + -1)))[i] := List.getElem?_eq_getElem (by omega)
          repeat walk_at "rd"
          refine r_ixTI (sqT_of hf10) hig ?_
          repeat walk_at "rd"
          have e511 := (e11.trans e9).trans e10
          refine r_ixTI (sqT_ex e511 hf) hif ?_
          repeat walk_at "rd"
          refine r_F (decide_eq_false ?_) ?_
          · have := m_dn fit lev hoa c3 (show o ≠ i by omega) lev' hig (by rw [← efs]; exact hif)
            omega
          repeat walk_at "rd"
          exact ⟨_, rfl, e511⟩
        · refine r_F (decide_eq_false c3) ?_
          repeat walk_at "rd"
          exact ⟨_, rfl, e11⟩
      · rintro σ H11 ⟨x9, rfl, e11⟩
        repeat walk_at "rd"
        exact ⟨_, _, rfl, e11⟩
    · rintro σ H8 ⟨x4, x9, rfl, e8⟩
      repeat walk_at "rd"
      exact k H8 (ex4.trans (ExB.of (e5.trans e8)))
abbrev s_law : Stmt := top 20
theorem sc_law : FnScope ["script", "spot"] ["script"] (defScope s_law) := ⟨rfl, rfl, rfl, by decide +kernel, rfl, by decide +kernel, by decide +kernel⟩
def sp_law (K : PySem.W.Frag) : Sp := fun vs H Q _ => ∃ (a : Addr) (ns : List Int), vs = [.ref a] ∧ SqL K H a (ns.map V.int) ∧ ns.length ≤ 63 ∧ ∀ H', Ex H H' → Q (.bl true) H'
theorem ok_law {f0 : Addr} {fd0 : FuncData} (F : FunD K "law" "law" (defArgs s_law) (defBody s_law) (defScope s_law) [] [] f0 fd0) (C : Cx0 K mg base) : FnOk P w K mg base (L2.CX P w) 6 f0 fd0 ["script"] (sp_law K) := by
  have c__law_right := ok__law_right (P := P) (w := w) C
  have c__law_dice := ok__law_dice (P := P) (w := w) C
  refine FunD.ok F sc_law (fun vs H Q E h => ?_) (fun cdv A outer s H vs Q E hr h => ⟨_, PSs.nox
    (pss_cons (ps_for PassesOwn.never rfl (pi_range1 rfl (C.free 17) (pa_cons (pe_bi (cr_max2 rfl) (C.free 22) (by decide +kernel) (pa_cons pe_int (pa_cons (pe_bi (cr_min2 rfl) (C.free 21) (by decide +kernel) (pa_cons pe_int (pa_cons (pe_bi (k_len (K := K) rfl) (C.free 23) (by decide +kernel) (pa_cons (pv 0) pa_nil)) pa_nil))) pa_nil))) pa_nil)) (pg_name (i := 1) sc_law.nd rfl (Or.inl rfl))
      (pss_one (ps_if (pt_not (k_truth (K := K) rfl (pe_f c__law_right hr (by decide) passL (pa_cons (pe_f c__law_dice hr (by decide) passL (pa_cons (pv 0) (pa_cons (pv 1) pa_nil))) pa_nil)) (by intro _; rfl))) (pss_one (ps_ret pe_bl)) pss_nil)))
      (pss_one (ps_ret pe_bl))), ?_⟩)
  · obtain ⟨a, ns, rfl, _⟩ := h
    rfl
  · obtain ⟨a, ns, rfl, ha, hn, k⟩ := h
    repeat walk_at "rd"
    refine r_lenLI ha ?_
    repeat walk_at "rd"
    obtain ⟨n, en⟩ : ∃ n : Nat, max 1 (min 4 (ns.length : Int)) = n := ⟨(max 1 (min 4 (ns.length : Int))).toNat, by omega⟩
    rw [en]
    have n4 : n ≤ 63 := by omega
    refine n_1 (by omega) ?_
    rw [Int.toNat_natCast]
    refine f_rng (fun i σ H' => ∃ x1 : Option V, σ = [some (.ref a), x1] ∧ Ex H H') ⟨_, rfl, Ex.refl H⟩ ?_ ?_
    · rintro i σ H1 hi ⟨x1, rfl, e1⟩
      rw [Int.zero_add]
      repeat walk_at "rd"
      refine ⟨a, ns, _, rfl, sqL_ex e1 ha, by omega, by omega, by omega, fun d H2 e2 f2 d2 => ?_⟩
      refine ⟨d, rfl, d2, fun H3 e3 => ?_⟩
      repeat walk_at "rd"
      refine ⟨_, rfl, fun b o hb => ?_⟩
      have : b ≠ d := fun e => by rw [e] at hb; rw [e1 _ _ hb] at f2; cases f2
      exact e3 b o this (e2 b o (e1 b o hb))
    · rintro σ H1 ⟨x1, rfl, e1⟩
      repeat walk_at "rd"
      exact k H1 e1
end
end K62

end

section
open PySem PySem.Spec PyProof.Rows PB
theorem K62.law_at {w : World} {h : Heap} {mg : Str → Option Value} {fa : Addr} (Y : K62.hk.says w h) (G : h.Ns mainGlobals mg) (hmg : mg ("law" : Str) = some (.ref fa)) : ∃ K : PySem.W.Frag, K.In h ∧ LamX.LawAtS PySem.Challenge.rw_promisedpost_k62_whole_shares_are_fair w K (L2.CX (PySem.Challenge.rw_promisedpost_k62_whole_shares_are_fair).prog w) 6 63 "script" mg fa h := by
  obtain ⟨K, KX, c⟩ := Y
  have c : He.SaysD K62.fa K62.fn K := c.t.d
  obtain ⟨fd, F⟩ := c.def_ 12 (d := K62.dd "law" 20) rfl
  have e := hmg.symm.trans (He.glo_ok KX G (c.fact 12 (f := .glo "law") rfl))
  cases e
  have b := L2.FunD.bindsA (ps := ["script"]) F fun _ _ _ _ _ _ us hl => match us, hl with | [_], _ => rfl
  exact ⟨K, KX, fd, [], K62.sp_law K, (fun p hp => nomatch hp), (fun p hp => nomatch hp), (fun p hp => nomatch hp), fun s u => b s [u] rfl, fun H a ns hl _ _ hS => ⟨a, ns, rfl, hS, hl, fun _ _ => rfl⟩,
    fun base h1 h2 _ => K62.ok_law F ⟨c, h1, h2⟩⟩
theorem K62.cx_no (w : World) (H : L2.Hp) (s : Shared) (e : Value) (s' : Shared) : L2.CX (PySem.Challenge.rw_promisedpost_k62_whole_shares_are_fair).prog w [] H s (fun _ _ _ => False) e s' → False := fun ⟨_, _, _, _, _, _, _, _, _, _, _, _, z⟩ => z
end
open PySem PySem.W PySem.Calls PyProof.Rows
theorem PySem.Challenge.cw_promisedpost_k62_whole_shares_are_fair_holds : PySem.Challenge.rw_promisedpost_k62_whole_shares_are_fair.Holds := by
  w_on; o_law
  refine HandSHeadRun.head_any (r := OpenLaw.row PySem.Challenge.rw_promisedpost_k62_whole_shares_are_fair) (q := view (OpenLaw.row PySem.Challenge.rw_promisedpost_k62_whole_shares_are_fair).prog [20]) (H := K62.hk) (ob := K62.ob) (M := 1000) (loose := K62.names) (d := HandSHeadRun.topDef (OpenLaw.row PySem.Challenge.rw_promisedpost_k62_whole_shares_are_fair).prog 20) (kwd := []) K62.ob_eq
    (by kernel_rfl) (fun s => by kernel_rfl) K62.run (by kernel_rfl) (by kernel_rfl) (by kernel_rfl) (by rfl) (by first | assumption | decide +kernel) (by decide +kernel) ⟨rfl, rfl, rfl, rfl, rfl, by decide +kernel⟩ ?hw ?hc
  case hw => w_witness2
  case hc =>
    refine LamX.walk_ofTsE (l := PySem.Challenge.rw_promisedpost_k62_whole_shares_are_fair) (n := 63) (k := 6) (x := "script") (CX := fun w => L2.CX (PySem.Challenge.rw_promisedpost_k62_whole_shares_are_fair).prog w) rfl (by decide) (by kernel_rfl) ⟨rfl, by decide, by decide⟩ ?F K62.cx_no
    intro w mg fa h Y G hmg0
    refine K62.law_at Y G ?_
    have e : (HandSHeadRun.topDef (OpenLaw.row PySem.Challenge.rw_promisedpost_k62_whole_shares_are_fair).prog 20).name = ("law" : PySem.Str) := by kernel_rfl
    rw [← e]
    exact hmg0
