import PyProof.Rows.All
import Wide.All
import OpenK.AllK
import Wide.FinOn
import KE.KStateDown
import HandS.Base
import HandS.Call
import HandS.Exc
import HandS.Defaults
import HandS.Words
import HandS.List
import HandS.Dict
import HandS.More
import HandS.Head0
import HandS.Head1
import HandS.Head2
import HandS.HeadEnd
import HandS.HeadHook1
import HandS.HeadHook2
import HandS.HeadHook3
import HandS.ForMost
import HandS.Wide
import HandS.WideMore
import HandS.Flow
import HandS.IsInst
import HandS.ExcInit
import HandS.Text
import Lean
import KE.KOpsOwn
import KE.KExcHand
import KE.KExcIs
import HandS.Property
import HandS.SlotsOwn
import HandS.MakeKw
import HandS.Style
import HandS.ExcValue
import HandS.ExcIs
import HandS.TupAny
import PyProof.StrOps2
import HandS.ExcOwn
import HandS.WordsExc
import HandS.Rev
import KE.KRevSl
import HandS.SetKeys
import HandS.SortInts
import KE.KOwnIter
import KE.KDictIter
import HandS.IterNext
import PyProof.TwoTypes
import PyProof.FactsAll.int_1
import PyProof.FactsAll.int_3
import PyProof.FactsAll.int_5
import HandS.ExcField
import PySem.Challenge.RW_everyangle_k00_error_classes
set_option Elab.async false
set_option linter.all false
set_option maxRecDepth 100000
set_option maxHeartbeats 4000000
/-! The head's facts by one kernel run: what is looked at, and what each look says. -/
namespace My
open PySem PySem.Spec PyProof.Rows L2
theorem all_at {l : List Bool} (h : l.all id = true) {i : Nat} {b : Bool} (e : l[i]? = some b) : b = true := List.all_eq_true.mp h b (List.mem_of_getElem? e)
theorem list_at {α : Type} {l m : List α} (e : l = m) {i : Nat} {a b : α} (h1 : l[i]? = some a) (h2 : m[i]? = some b) : a = b := by
  subst e
  rw [h1] at h2
  exact Option.some.inj h2
theorem some_at {α : Type} {o : Option α} (h : o.isSome = true) : ∃ x, o = some x := Option.isSome_iff_exists.mp h
section
variable {K : PySem.W.Frag}
def fnE (K : PySem.W.Frag) (f : Addr) : He.FnW := match K.lookup f with
  | some ⟨_, _, .func fd, _⟩ => some (fd.name, fd.qualname, fd.params, fd.body, fd.scope, fd.globals, fd.closure, fd.builtins)
  | _ => none
def fnC (K : PySem.W.Frag) (f : Addr) (q : Str) (dV : Value) : Bool := match K.lookup f with
  | some ⟨_, _, .func fd, _⟩ => PySem.W.codeIn K fd.code q && decide (fd.defaults = dV)
  | _ => false
theorem fnE_ok {f : Addr} {x q : Str} {ps : Arguments} {body : List Stmt} {sc : Scope} {dV : Value} (e : fnE K f = some (x, q, ps, .stmts body, sc, mainGlobals, [], builtinsNs)) (c : fnC K f q dV = true) :
    ∃ oc od osl kV doc pm an cdv ct, K.lookup f = some ⟨oc, od, .func (PySem.W.fnOf x q ps body sc dV kV doc pm an cdv ct), osl⟩ ∧ PySem.W.codeIn K cdv q = true := by
  unfold fnC at c
  unfold fnE at e
  cases l : K.lookup f with
  | none =>
    rw [l] at c
    cases c
  | some o =>
    obtain ⟨oc, od, dt, osl⟩ := o
    rw [l] at c e
    cases dt with
    | func fd =>
      obtain ⟨n1, n2, n3, n4, n5, n6, n7, n8, n9, n10, n11, n12, n13, n14, n15⟩ := fd
      have e2 : (some (n1, n2, n3, n4, n5, n6, n7, n15) : He.FnW) = some (x, q, ps, .stmts body, sc, mainGlobals, [], builtinsNs) := e
      simp only [Option.some.injEq, Prod.mk.injEq] at e2
      obtain ⟨h1, h2, h3, h4, h5, h6, h7, h8⟩ := e2
      subst h1 h2 h3 h4 h5 h6 h7 h8
      have c3 : (PySem.W.codeIn K n13 n2 && decide (n8 = dV)) = true := c
      obtain ⟨k1, k2⟩ := He.ba c3
      have k3 := of_decide_eq_true k2
      subst k3
      exact ⟨oc, od, osl, n9, n10, n11, n12, n13, n14, rfl, k1⟩
    | _ => cases c
theorem fun_at {f : Addr} {x q : Str} {st : Stmt} (e : fnE K f = some (x, q, defArgs st, .stmts (defBody st), defScope st, mainGlobals, [], builtinsNs)) (c : fnC K f q .none = true) (k : PySem.W.keepIn K (.ref f) = true) : ∃ fd : FuncData, Fun K x q st f fd := by
  obtain ⟨oc, od, osl, kV, doc, pm, an, cdv, ct, l, h⟩ := fnE_ok e c
  exact ⟨_, ⟨oc, od, kV, doc, pm, an, cdv, ct, osl, rfl, l, h⟩, k⟩
end
/-- what the module's names reach in n steps, level by level (with doublets) -/
def hdLv (g : Addr → Option Obj) : Nat → List Addr → List Addr
  | 0, as => as
  | n + 1, as => as ++ hdLv g n (as.flatMap fun a => match g a with
    | some o => He.refsD o
    | none => [])
/-- a fact of every world: at each answer of the one row of the world that the top asks -/
theorem by_row {P : World → Prop} (hf : ∀ w : World, P (w.withFollow "special-get-raises" false)) (ht : ∀ w : World, P (w.withFollow "special-get-raises" true)) (w : World) : P w := PySem.W.byRow2 "special-get-raises" hf ht w
end My

set_option Elab.async false
set_option linter.all false
set_option maxRecDepth 100000
namespace My
open PySem PySem.Spec PyProof.Rows L2

/-! ### a def of the text, by its name -/
structure Has (P : Program) (w : World) (K : PySem.W.Frag) (mg : Str → Option Value) (base : Heap) (x : Str) (k : Nat) (ps : List Str) (sp : Sp) : Prop where
  ex : ∃ f fd, FnOk P w K mg base CX0 k f fd ps sp ∧ mg x = some (.ref f) ∧ PySem.W.keepIn K (.ref f) = true ∧ Binds K fd ps []
theorem Has.mono {P : Program} {w : World} {K : PySem.W.Frag} {mg : Str → Option Value} {base : Heap} {x : Str} {j k : Nat} {ps : List Str} {sp : Sp} (h : Has P w K mg base x j ps sp) (hk : j ≤ k) : Has P w K mg base x k ps sp := by
  obtain ⟨f, fd, F, a, b, c⟩ := h.ex
  exact ⟨f, fd, F.mono hk, a, b, c⟩
section
variable {X : Cx} {k : Nat} {ps : List Str} {sp : Sp} {x : Str} {p pos : Pos} {e : Expr} {es : List Expr} {t : TA}
theorem pe_callH (h : Has X.prog X.w X.K X.mg X.base x k ps sp) (hr : Room k X.A) (ha : PA X (e :: es) t) (hg : Gl X x := by rfl) (hdb : (x == ("__debug__" : Str)) = false := by decide)
   (hs : starEach (e :: es) X.env = (false, eval e X.env) :: starEach es X.env := by rfl) (hplain : (backTo pos (starEach es X.env)).any (·.1) = false := by rfl) :
   PE X (.Call (.Name x p) (e :: es) [] pos) (tCall sp [] E0 t) := by
  obtain ⟨f, fd, F, a, b, c⟩ := h.ex
  exact pe_call F hr hg a b c .nil pass0 ha hdb hs hplain
end
/-- xs[i] read by values, for o[i] op= e -/
theorem pg_list {X : Cx} : PGet X (rIxL X.K) := by
  intro pins s σ H x y v u Q I rx ry h
  obtain ⟨p, xs, i, z, rfl, rfl, hq, he, q⟩ := h
  cases rx
  obtain ⟨t, rfl⟩ := ry
  obtain ⟨its, r, pl, hz⟩ := I.list hq
  obtain ⟨j, h1, h2, h3, h4, h5⟩ := atI_get he
  obtain ⟨w, ew, rw'⟩ := r.get h2
  have hl := r.length
  have hn := line63
  have fin : EP X pins σ Q w s := ⟨z, H, I, rw', q⟩
  by_cases h0 : 0 ≤ i
  · have hj : i.toNat = j := by
      rw [seqIndex_of h0 h5] at h1
      exact Option.some.inj h1
    exact wpAny_getItem_list pl.isList h0 (by omega) (by rw [hj]; simpa using ew) fin
  · have hj : (i + (its.toArray.size : Int)).toNat = j := by
      rw [seqIndex_neg (by omega) h4] at h1
      rw [List.size_toArray, ← hl]
      exact Option.some.inj h1
    exact wpAny_getItem_list_neg pl.isList (by omega) (by rw [List.size_toArray] <;> omega) (by omega) (by rw [hj]; simpa using ew) fin
/-- int(n) of an int, of a truth -/
theorem call_intI {X : Cx} : CallR X (.type "int") (fun xs H Q => ∃ i, xs = [.int i] ∧ Q (.int i) H) := fun pins s σ H xs us Q I r h => call_int1 pins s σ H xs us Q I r (.inl h)
/-! ### readings, one step at a time -/
section
variable {σ : L2.St} {H : Hp} {Q : VK} {i j : Nat} {v x y : V} {ta tb tc te ti to : TE} {K : PySem.W.Frag}
theorem r_var (e : σ[i]? = some (some v)) (q : Q v H) : tVar i σ H Q := ⟨v, e, q⟩
theorem r_c (q : Q v H) : tC v σ H Q := q
theorem r_op {r : R2} (q : ta σ H fun x H1 => tb σ H1 fun y H2 => r x y H2 Q) : tOp r ta tb σ H Q := q
theorem r_un {r : V → Hp → VK → Prop} (q : ta σ H fun x H1 => r x H1 Q) : tUn r ta σ H Q := q
theorem r_rI {C : Int → Int → Prop} {g : Int → Int → V} {a b : Int} (c : C a b) (q : Q (g a b) H) : rI C g (.int a) (.int b) H Q := ⟨a, b, rfl, rfl, c, q⟩
theorem r_rI0 {g : Int → Int → V} {a b : Int} (q : Q (g a b) H) : rI0 g (.int a) (.int b) H Q := ⟨a, b, rfl, rfl, q⟩
theorem r_rU {g : Int → V} {a : Int} (q : Q (g a) H) : rU g (.int a) H Q := ⟨a, rfl, q⟩
theorem r_eq (s : scal x y = true) (q : Q (.bl (decide (x = y))) H) : rEq x y H Q := ⟨s, q⟩
theorem r_ne (s : scal x y = true) (q : Q (.bl (!decide (x = y))) H) : rNe x y H Q := ⟨s, q⟩
theorem dec_int {a b : Int} : decide (V.int a = V.int b) = decide (a = b) := by
  by_cases h : a = b
  · rw [h]; simp
  · rw [decide_eq_false h, decide_eq_false (fun e => h (V.int.inj e))]
theorem dec_bl {a b : Bool} : decide (V.bl a = V.bl b) = decide (a = b) := by
  by_cases h : a = b
  · rw [h]; simp
  · rw [decide_eq_false h, decide_eq_false (fun e => h (V.bl.inj e))]
theorem dec_str {a b : Str} : decide (V.str a = V.str b) = decide (a = b) := by
  by_cases h : a = b
  · rw [h]; simp
  · rw [decide_eq_false h, decide_eq_false (fun e => h (V.str.inj e))]
theorem r_eqI {a b : Int} (q : Q (.bl (decide (a = b))) H) : rEq (.int a) (.int b) H Q := ⟨rfl, by rw [dec_int]; exact q⟩
theorem r_neI {a b : Int} (q : Q (.bl (!decide (a = b))) H) : rNe (.int a) (.int b) H Q := ⟨rfl, by rw [dec_int]; exact q⟩
theorem r_eqB {a b : Bool} (q : Q (.bl (decide (a = b))) H) : rEq (.bl a) (.bl b) H Q := ⟨rfl, by rw [dec_bl]; exact q⟩
theorem r_neB {a b : Bool} (q : Q (.bl (!decide (a = b))) H) : rNe (.bl a) (.bl b) H Q := ⟨rfl, by rw [dec_bl]; exact q⟩
theorem r_eqS {a b : Str} (q : Q (.bl (decide (a = b))) H) : rEq (.str a) (.str b) H Q := ⟨rfl, by rw [dec_str]; exact q⟩
theorem r_neS {a b : Str} (q : Q (.bl (!decide (a = b))) H) : rNe (.str a) (.str b) H Q := ⟨rfl, by rw [dec_str]; exact q⟩
theorem r_ixL {p : Addr} {xs : List V} {n : Int} (h : SqL K H p xs) (e : atI xs n = some v) (q : Q v H) : rIxL K (.ref p) (.int n) H Q := ⟨p, xs, n, v, rfl, rfl, h, e, q⟩
theorem r_ixT {p : Addr} {xs : List V} {n : Int} (h : SqT K H p xs) (e : atI xs n = some v) (q : Q v H) : rIxT K (.ref p) (.int n) H Q := ⟨p, xs, n, v, rfl, rfl, h, e, q⟩
theorem r_cb {r : List V → Hp → VK → Prop} {t : TA} (q : t σ H fun vs H1 => r vs H1 Q) : tCB r t σ H Q := q
theorem r_call {sp : Sp} {E : XK} {t : TA} (q : t σ H fun vs H1 => sp vs H1 Q E) : tCall sp [] E t σ H Q := by
  unfold tCall
  simpa only [List.append_nil] using q
theorem r_cons {t : TA} {R : List V → Hp → Prop} (q : te σ H fun x H1 => t σ H1 fun xs H2 => R (x :: xs) H2) : tCons te t σ H R := q
theorem r_nil {R : List V → Hp → Prop} (q : R [] H) : tNil σ H R := q
theorem r_lst {t : TA} (q : t σ H fun xs H1 => xs.length ≤ sizeLine ∧ ∀ p, H1 p = none → Q (.ref p) (upd H1 p (.lst xs))) : tLst t σ H Q := q
theorem r_tup {t : TA} (q : t σ H fun xs H1 => xs.length ≤ sizeLine ∧ ∀ p, H1 p = none → Q (.ref p) (upd H1 p (.tup xs))) : tTup t σ H Q := q
theorem small_of {n : Nat} (h : n ≤ 100000) : n ≤ sizeLine := Nat.le_trans h (by decide)
theorem r_new {A : Prop} {n : Nat} (h : n ≤ 100000) (q : A) : n ≤ sizeLine ∧ A := ⟨small_of h, q⟩
theorem r_exbl {b : Bool} {R : Bool → Prop} (q : R b) : ∃ k, V.bl b = V.bl k ∧ R k := ⟨b, rfl, q⟩
theorem r_exint {n : Int} {R : Int → Prop} (q : R n) : ∃ k, [V.int n] = [V.int k] ∧ R k := ⟨n, rfl, q⟩
theorem r_exint2 {n m : Int} {R : Int → Int → Prop} (q : R n m) : ∃ k l, [V.int n, V.int m] = [V.int k, V.int l] ∧ R k l := ⟨n, m, rfl, q⟩
theorem r_exblL {b : Bool} {R : Bool → Prop} (q : R b) : ∃ k, [V.bl b] = [V.bl k] ∧ R k := ⟨b, rfl, q⟩
theorem r_test {t : TE} {R : Bool → Hp → Prop} (q : t σ H fun x H' => ∃ k, x = .bl k ∧ R k H') : tTest t σ H R := q
theorem r_tB {t : TE} {R : Bool → Hp → Prop} (q : t σ H fun x H' => ∃ k, x = .bl k ∧ R k H') : tB t σ H R := q
theorem r_not {t : TT} {R : Bool → Hp → Prop} (q : t σ H fun c H1 => R (!c) H1) : tNot t σ H R := q
theorem r_and {t u : TT} {R : Bool → Hp → Prop} (q : t σ H fun c H1 => if c = true then u σ H1 R else R false H1) : tAnd t u σ H R := q
theorem r_or {t u : TT} {R : Bool → Hp → Prop} (q : t σ H fun c H1 => if c = true then R true H1 else u σ H1 R) : tOr t u σ H R := q
theorem r_andV (q : ta σ H fun x H1 => ∃ c, x = .bl c ∧ if c = true then tb σ H1 Q else Q (.bl false) H1) : tAndV ta tb σ H Q := q
theorem r_orV (q : ta σ H fun x H1 => ∃ c, x = .bl c ∧ if c = true then Q (.bl true) H1 else tb σ H1 Q) : tOrV ta tb σ H Q := q
theorem r_notV (q : ta σ H fun x H1 => ∃ c, x = .bl c ∧ Q (.bl (!c)) H1) : tNotV ta σ H Q := q
theorem r_tif {t : TT} (q : t σ H fun c H1 => if c = true then ta σ H1 Q else tb σ H1 Q) : tIf t ta tb σ H Q := q
theorem r_iteT {A B : Prop} (q : A) : if true = true then A else B := by rw [if_pos rfl]; exact q
theorem r_iteF {A B : Prop} (q : B) : if false = true then A else B := by rw [if_neg Bool.false_ne_true]; exact q
theorem r_iteD {c A B : Prop} [Decidable c] (q : c → A) (q' : ¬ c → B) : if decide c = true then A else B := by
  by_cases h : c
  · rw [if_pos (decide_eq_true h)]; exact q h
  · rw [if_neg (by simpa using h)]; exact q' h
theorem r_iteNT {A B : Prop} (q : B) : if (!true) = true then A else B := r_iteF q
theorem r_iteNF {A B : Prop} (q : A) : if (!false) = true then A else B := r_iteT q
theorem r_iteDT {c A B : Prop} [Decidable c] (h : c) (q : A) : if decide c = true then A else B := by rw [if_pos (decide_eq_true h)]; exact q
theorem r_iteDF {c A B : Prop} [Decidable c] (h : ¬ c) (q : B) : if decide c = true then A else B := by rw [if_neg (by simpa using h)]; exact q
theorem r_iteNDT {c A B : Prop} [Decidable c] (h : ¬ c) (q : A) : if (!decide c) = true then A else B := by rw [if_pos (by simpa using h)]; exact q
theorem r_iteNDF {c A B : Prop} [Decidable c] (h : c) (q : B) : if (!decide c) = true then A else B := by rw [if_neg (by simpa using h)]; exact q
/-- a statement, then the rest, with a word between them -/
def tCutM (t u : TS) : TS := fun D σ H => ∃ Mid : L2.St → Hp → Prop, t { D with nx := Mid } σ H ∧ ∀ σ' H', Mid σ' H' → u D σ' H'
theorem pss_cutM {X : Cx} {st : Stmt} {rest : List Stmt} {t u : TS} (h1 : PS X st t) (h2 : PSs X rest u) : PSs X (st :: rest) (tCutM t u) := by
  refine ⟨fun pins s σ H D I h => ?_⟩
  obtain ⟨Mid, hm, hu⟩ := h
  refine wpAny_execs_cons (thn (h1.run pins s σ H { D with nx := Mid } I hm) fun f s1 q => ?_)
  cases f with
  | next =>
    obtain ⟨σ', H', I', q⟩ := q
    exact h2.run pins s1 σ' H' D I' (hu σ' H' q)
  | ret v => exact q
  | brk => exact q
  | cont => exact q
variable {D : Ends} {t u : TS} {g : TG} {c : TT}
theorem r_cut (Mid : L2.St → Hp → Prop) (h : t { D with nx := Mid } σ H) (q : ∀ σ' H', Mid σ' H' → u D σ' H') : tCutM t u D σ H := ⟨Mid, h, q⟩
theorem r_seq (q : t { D with nx := u D } σ H) : tSeq t u D σ H := q
theorem r_next (q : D.nx σ H) : tNext D σ H := q
theorem r_brk (q : D.bk σ H) : tBreak D σ H := q
theorem r_cont (q : D.ct σ H) : tCont D σ H := q
theorem r_asg (q : te σ H fun x H1 => g x σ H1 D.nx) : tAsg te g D σ H := q
theorem r_gname {R : L2.St → Hp → Prop} (q : R (σ.set i (some v)) H) : gName i v σ H R := q
theorem r_ret (q : te σ H D.rt) : tRet te D σ H := q
theorem r_retN (q : D.rt .non H) : tRetN D σ H := q
theorem r_drop (q : te σ H fun _ H1 => D.nx σ H1) : tDrop te D σ H := q
theorem r_if (q : c σ H fun b H1 => if b = true then t D σ H1 else u D σ H1) : tIfS c t u D σ H := q
theorem r_aug {ip : TIp} (e : σ[i]? = some (some x)) (q : te σ H fun y H1 => ip x y H1 fun z H2 => D.nx (σ.set i (some z)) H2) : tAug i te ip D σ H := ⟨x, e, q⟩
theorem r_ipI {f : Int → Int → Int} {a b : Int} (q : Q (.int (f a b)) H) : ipI f (.int a) (.int b) H Q := ⟨a, b, rfl, rfl, q⟩
theorem r_augS {gt : V → V → Hp → VK → Prop} {ip : TIp} {st : TSet} (q : to σ H fun o H1 => ti σ H1 fun i H2 => gt o i H2 fun x H3 => te σ H3 fun y H4 => ip x y H4 fun z H5 => st o i z H5 fun H6 => D.nx σ H6) : tAugS to ti te gt ip st D σ H := q
theorem r_gsub {st : TSet} {R : L2.St → Hp → Prop} (q : to σ H fun o H1 => ti σ H1 fun i H2 => st o i v H2 fun H3 => R σ H3) : gSub to ti st v σ H R := q
theorem r_setL {p : Addr} {xs : List V} {n : Int} {m : Nat} {R : Hp → Prop} (h : H p = some (.lst xs)) (e : ixN xs.length n = some m) (q : R (upd H p (.lst (xs.set m v)))) : rSetL (.ref p) (.int n) v H R := ⟨p, xs, n, m, rfl, rfl, h, e, q⟩
theorem r_par {i j : Nat} {tas : TA} (q : tas σ H fun vs H1 => ∃ v w, vs = [v, w] ∧ D.nx ((σ.set i (some v)).set j (some w)) H1) : tPar i j tas D σ H := q
theorem r_ex2 {v w : V} {R : V → V → Prop} (q : R v w) : ∃ a b, [v, w] = [a, b] ∧ R a b := ⟨v, w, rfl, q⟩
theorem r_bm {T : String} {r : V → List V → Hp → VK → Prop} {tas : TA} (q : to σ H fun x H1 => tyV K T x H1 ∧ tas σ H1 fun xs H2 => r x xs H2 Q) : tBM K T r to tas σ H Q := q
theorem r_tyL {p : Addr} {xs : List V} {A : Prop} (h : H p = some (.lst xs)) (q : A) : tyV K "list" (.ref p) H ∧ A := ⟨.inl ⟨rfl, _, .inl (.inl h)⟩, q⟩
theorem r_append {p : Addr} {xs : List V} (h : H p = some (.lst xs)) (hl : xs.length < 100000) (q : Q .non (upd H p (.lst (xs ++ [v])))) : rAppend (.ref p) [v] H Q := ⟨p, xs, v, rfl, rfl, h, Nat.lt_of_lt_of_le hl (by decide), q⟩
end

/-- f(k = v, ..): all by name, in the parameters' order -/
def gK (us ws : List Value) : List Value := match us with | [] => ws | _ :: _ => []
def gKV (us ws : List V) : List V := match us with | [] => ws | _ :: _ => []
structure HasK (P : Program) (w : World) (K : PySem.W.Frag) (mg : Str → Option Value) (base : Heap) (x : Str) (k : Nat) (ps : List Str) (sp : Sp) : Prop where
  ex : ∃ f fd, FnOk P w K mg base CX0 k f fd ps sp ∧ mg x = some (.ref f) ∧ PySem.W.keepIn K (.ref f) = true ∧ Binds K fd ps [] ∧ KBinds K fd ps ps gK gKV
theorem HasK.has {P : Program} {w : World} {K : PySem.W.Frag} {mg : Str → Option Value} {base : Heap} {x : Str} {k : Nat} {ps : List Str} {sp : Sp} (h : HasK P w K mg base x k ps sp) : Has P w K mg base x k ps sp := by
  obtain ⟨f, fd, F, a, b, c, _⟩ := h.ex
  exact ⟨f, fd, F, a, b, c⟩
/-! ### isinstance -/
section
variable {H : Hp} {Q : VK} {K : PySem.W.Frag} {x : V}
theorem r_isi {a b : String} {r : Bool} (ty : TyX K H x (.type a)) (k : kitB a b = some r) (q : Q (.bl r) H) : rIsi K [x, .ty b] H Q := ⟨x, .ty b, _, _, r, rfl, .ty b, ty, kit_ty k, q⟩
theorem ty_int {i : Int} : TyX K H (.int i) (.type "int") := .base (.int i)
theorem ty_bl {i : Bool} : TyX K H (.bl i) (.type "bool") := .base (.bl i)
theorem ty_str {i : Str} : TyX K H (.str i) (.type "str") := .base (.str i)
theorem ty_lst {p : Addr} {xs : List V} (h : H p = some (.lst xs)) : TyX K H (.ref p) (.type "list") := .base (.lst h)
theorem ty_tup {p : Addr} {xs : List V} (h : H p = some (.tup xs)) : TyX K H (.ref p) (.type "tuple") := .base (.tup h)
end
section
variable {H : Hp} {Q : VK} {K : PySem.W.Frag}
theorem r_is_int_int {i : Int} (q : Q (.bl true) H) : rIsi K [.int i, .ty "int"] H Q := r_isi ty_int (by decide +kernel) q
theorem r_is_int_bool {i : Int} (q : Q (.bl false) H) : rIsi K [.int i, .ty "bool"] H Q := r_isi ty_int (by decide +kernel) q
theorem r_is_int_str {i : Int} (q : Q (.bl false) H) : rIsi K [.int i, .ty "str"] H Q := r_isi ty_int (by decide +kernel) q
theorem r_is_int_list {i : Int} (q : Q (.bl false) H) : rIsi K [.int i, .ty "list"] H Q := r_isi ty_int (by decide +kernel) q
theorem r_is_int_tuple {i : Int} (q : Q (.bl false) H) : rIsi K [.int i, .ty "tuple"] H Q := r_isi ty_int (by decide +kernel) q
theorem r_is_bool_int {i : Bool} (q : Q (.bl true) H) : rIsi K [.bl i, .ty "int"] H Q := r_isi ty_bl (by decide +kernel) q
theorem r_is_bool_bool {i : Bool} (q : Q (.bl true) H) : rIsi K [.bl i, .ty "bool"] H Q := r_isi ty_bl (by decide +kernel) q
theorem r_is_bool_str {i : Bool} (q : Q (.bl false) H) : rIsi K [.bl i, .ty "str"] H Q := r_isi ty_bl (by decide +kernel) q
theorem r_is_bool_list {i : Bool} (q : Q (.bl false) H) : rIsi K [.bl i, .ty "list"] H Q := r_isi ty_bl (by decide +kernel) q
theorem r_is_bool_tuple {i : Bool} (q : Q (.bl false) H) : rIsi K [.bl i, .ty "tuple"] H Q := r_isi ty_bl (by decide +kernel) q
theorem r_is_str_int {i : Str} (q : Q (.bl false) H) : rIsi K [.str i, .ty "int"] H Q := r_isi ty_str (by decide +kernel) q
theorem r_is_str_bool {i : Str} (q : Q (.bl false) H) : rIsi K [.str i, .ty "bool"] H Q := r_isi ty_str (by decide +kernel) q
theorem r_is_str_str {i : Str} (q : Q (.bl true) H) : rIsi K [.str i, .ty "str"] H Q := r_isi ty_str (by decide +kernel) q
theorem r_is_str_list {i : Str} (q : Q (.bl false) H) : rIsi K [.str i, .ty "list"] H Q := r_isi ty_str (by decide +kernel) q
theorem r_is_str_tuple {i : Str} (q : Q (.bl false) H) : rIsi K [.str i, .ty "tuple"] H Q := r_isi ty_str (by decide +kernel) q
theorem r_is_list_int {p : Addr} {xs : List V}  (h : H p = some (.lst xs)) (q : Q (.bl false) H) : rIsi K [.ref p, .ty "int"] H Q := r_isi (ty_lst h) (by decide +kernel) q
theorem r_is_list_bool {p : Addr} {xs : List V}  (h : H p = some (.lst xs)) (q : Q (.bl false) H) : rIsi K [.ref p, .ty "bool"] H Q := r_isi (ty_lst h) (by decide +kernel) q
theorem r_is_list_str {p : Addr} {xs : List V}  (h : H p = some (.lst xs)) (q : Q (.bl false) H) : rIsi K [.ref p, .ty "str"] H Q := r_isi (ty_lst h) (by decide +kernel) q
theorem r_is_list_list {p : Addr} {xs : List V}  (h : H p = some (.lst xs)) (q : Q (.bl true) H) : rIsi K [.ref p, .ty "list"] H Q := r_isi (ty_lst h) (by decide +kernel) q
theorem r_is_list_tuple {p : Addr} {xs : List V}  (h : H p = some (.lst xs)) (q : Q (.bl false) H) : rIsi K [.ref p, .ty "tuple"] H Q := r_isi (ty_lst h) (by decide +kernel) q
theorem r_is_tuple_int {p : Addr} {xs : List V}  (h : H p = some (.tup xs)) (q : Q (.bl false) H) : rIsi K [.ref p, .ty "int"] H Q := r_isi (ty_tup h) (by decide +kernel) q
theorem r_is_tuple_bool {p : Addr} {xs : List V}  (h : H p = some (.tup xs)) (q : Q (.bl false) H) : rIsi K [.ref p, .ty "bool"] H Q := r_isi (ty_tup h) (by decide +kernel) q
theorem r_is_tuple_str {p : Addr} {xs : List V}  (h : H p = some (.tup xs)) (q : Q (.bl false) H) : rIsi K [.ref p, .ty "str"] H Q := r_isi (ty_tup h) (by decide +kernel) q
theorem r_is_tuple_list {p : Addr} {xs : List V}  (h : H p = some (.tup xs)) (q : Q (.bl false) H) : rIsi K [.ref p, .ty "list"] H Q := r_isi (ty_tup h) (by decide +kernel) q
theorem r_is_tuple_tuple {p : Addr} {xs : List V}  (h : H p = some (.tup xs)) (q : Q (.bl true) H) : rIsi K [.ref p, .ty "tuple"] H Q := r_isi (ty_tup h) (by decide +kernel) q
theorem r_is_NoneType_int  (q : Q (.bl false) H) : rIsi K [.non, .ty "int"] H Q := r_isi (.base .non) (by decide +kernel) q
theorem r_is_NoneType_bool  (q : Q (.bl false) H) : rIsi K [.non, .ty "bool"] H Q := r_isi (.base .non) (by decide +kernel) q
theorem r_is_NoneType_str  (q : Q (.bl false) H) : rIsi K [.non, .ty "str"] H Q := r_isi (.base .non) (by decide +kernel) q
theorem r_is_NoneType_list  (q : Q (.bl false) H) : rIsi K [.non, .ty "list"] H Q := r_isi (.base .non) (by decide +kernel) q
theorem r_is_NoneType_tuple  (q : Q (.bl false) H) : rIsi K [.non, .ty "tuple"] H Q := r_isi (.base .non) (by decide +kernel) q
end
/-! ### slices, sums of lists, len -/
section
variable {σ : L2.St} {H : Hp} {Q : VK} {K : PySem.W.Frag} {te : TE} {p b : Addr} {xs zs : List V}
theorem r_sl {r : V → Option Int → Option Int → Hp → VK → Prop} {tl th : TO} (q : te σ H fun x H1 => tl σ H1 fun l H2 => th σ H2 fun u H3 => r x l u H3 Q) : tSl r te tl th σ H Q := q
theorem r_nopart {R : Option Int → Hp → Prop} (q : R none H) : tNoPart σ H R := q
theorem r_part {R : Option Int → Hp → Prop} (q : te σ H fun x H1 => ∃ i, x = .int i ∧ R (some i) H1) : tPart te σ H R := q
theorem r_exI {n : Int} {R : Int → Prop} (q : R n) : ∃ k, V.int n = V.int k ∧ R k := ⟨n, rfl, q⟩
theorem r_slL {lo hi : Option Int} (h : SqL K H p xs) (q : ∀ c, H c = none → Q (.ref c) (upd H c (.lst (cutV xs lo hi)))) : rSlL K (.ref p) lo hi H Q := ⟨p, xs, rfl, h, q⟩
theorem r_cat (h : H p = some (.lst xs)) (h' : H b = some (.lst zs)) (l : xs.length + zs.length ≤ 100000) (q : ∀ c, H c = none → Q (.ref c) (upd H c (.lst (xs ++ zs)))) : rCat (.ref p) (.ref b) H Q := ⟨p, b, xs, zs, rfl, rfl, h, h', small_of l, q⟩
def rLen (K : PySem.W.Frag) (xs : List V) (H : Hp) (Q : VK) : Prop := ∃ p ys, xs = [.ref p] ∧ (SqL K H p ys ∨ SqT K H p ys) ∧ Q (.int ys.length) H
theorem r_lenL (h : H p = some (.lst xs)) (q : Q (.int xs.length) H) : rLen K [.ref p] H Q := ⟨p, xs, rfl, .inl (.of h), q⟩
theorem r_lenT (h : H p = some (.tup xs)) (q : Q (.int xs.length) H) : rLen K [.ref p] H Q := ⟨p, xs, rfl, .inr (.of h), q⟩
theorem r_gTup {n : Nat} {t : TGs} {R : L2.St → Hp → Prop} (h : H p = some (.tup xs)) (l : xs.length = n) (q : t xs σ H R) : gTup K n t (.ref p) σ H R := ⟨p, xs, rfl, .of h, l, q⟩
theorem r_gCons {t : TG} {u : TGs} {v : V} {R : L2.St → Hp → Prop} (q : t v σ H fun σ' H' => u xs σ' H' R) : gCons t u (v :: xs) σ H R := ⟨v, xs, rfl, q⟩
theorem r_gNil {R : L2.St → Hp → Prop} (q : R σ H) : gNil [] σ H R := ⟨rfl, q⟩
theorem cut_len (lo hi : Option Int) : (cutV xs lo hi).length ≤ xs.length := by
  unfold cutV
  rw [List.length_take, List.length_drop]
  omega
theorem cut_mem {lo hi : Option Int} {x : V} (h : x ∈ cutV xs lo hi) : x ∈ xs := by
  unfold cutV at h
  exact List.mem_of_mem_drop (List.mem_of_mem_take h)
end
/-! ### loops -/
section
variable {σ : L2.St} {H : Hp} {Q : VK} {K : PySem.W.Frag} {D : Ends} {tb : TS} {g : TG} {c : TT} {p : Addr} {xs : List V}
theorem r_for {wi : TI} (q : wi σ H fun J H1 => ∃ W : Nat → Nat → L2.St → Hp → Prop, (∃ m, W 0 m σ H1) ∧ ∀ i m σ H, W i m σ H →
  (J.stop i H ∧ D.nx σ H) ∨ (J.go i H ∧ ∃ N : L2.St → Hp → Prop, (∀ σ' H', N σ' H' → ∃ m', m' < m ∧ W (i + 1) m' σ' H') ∧ ∀ x H', J.yld i H x H' → g x σ H' fun σ2 H2 => tb { D with nx := N, ct := N, bk := D.nx } σ2 H2)) : tFor wi g tb D σ H := q
theorem r_iList {tl : TE} {R : It → Hp → Prop} (q : tl σ H fun x H1 => ∃ a, x = .ref a ∧ (∃ xs, SqL K H1 a xs) ∧ R (Itl K a) H1) : iList K tl σ H R := q
theorem r_iTup {tl : TE} {R : It → Hp → Prop} (q : tl σ H fun x H1 => ∃ a, x = .ref a ∧ (∃ xs, SqT K H1 a xs) ∧ R (Itt K a) H1) : iTup K tl σ H R := q
theorem r_iR1 {ta : TA} {R : It → Hp → Prop} (q : ta σ H fun vs H1 => ∃ j : Int, vs = [.int j] ∧ -(2 ^ 62) ≤ j ∧ j < 2 ^ 62 ∧ R (Itr 0 j.toNat) H1) : iRng1 ta σ H R := q
theorem r_iR2 {ta : TA} {R : It → Hp → Prop} (q : ta σ H fun vs H1 => ∃ i j : Int, vs = [.int i, .int j] ∧ (-(2 ^ 62) ≤ i ∧ i < 2 ^ 62 ∧ -(2 ^ 62) ≤ j ∧ j < 2 ^ 62) ∧ R (Itr i (j - i).toNat) H1) : iRng2 ta σ H R := q
theorem u_forL (h : SqL K H p xs) (Pv : Nat → L2.St → Hp → Prop) (h0 : Pv 0 σ H) (hl : ∀ i σ H, i ≤ xs.length → Pv i σ H → SqL K H p xs)
    (hs : ∀ i x σ H, xs[i]? = some x → Pv i σ H → g x σ H fun σ2 H2 => tb { D with nx := Pv (i + 1), ct := Pv (i + 1), bk := D.nx } σ2 H2) (hd : ∀ σ H, Pv xs.length σ H → D.nx σ H) :
    ∃ a, V.ref p = .ref a ∧ (∃ xs, SqL K H a xs) ∧ ∃ W : Nat → Nat → L2.St → Hp → Prop, (∃ m, W 0 m σ H) ∧ ∀ i m σ H, W i m σ H →
      ((Itl K a).stop i H ∧ D.nx σ H) ∨ ((Itl K a).go i H ∧ ∃ N : L2.St → Hp → Prop, (∀ σ' H', N σ' H' → ∃ m', m' < m ∧ W (i + 1) m' σ' H') ∧ ∀ x H', (Itl K a).yld i H x H' → g x σ H' fun σ2 H2 => tb { D with nx := N, ct := N, bk := D.nx } σ2 H2) :=
  ⟨p, rfl, ⟨xs, h⟩, for_list Pv h0 hl hs hd⟩
theorem u_for1 {n : Int} (hb : -(2 ^ 62) ≤ n ∧ n < 2 ^ 62) (Pv : Nat → L2.St → Hp → Prop) (h0 : Pv 0 σ H)
    (hs : ∀ (i : Nat) σ H, (i : Int) < n → Pv i σ H → g (.int (i : Int)) σ H fun σ2 H2 => tb { D with nx := Pv (i + 1), ct := Pv (i + 1), bk := D.nx } σ2 H2) (hd : ∀ σ H, Pv n.toNat σ H → D.nx σ H) :
    -(2 ^ 62) ≤ n ∧ n < 2 ^ 62 ∧ ∃ W : Nat → Nat → L2.St → Hp → Prop, (∃ m, W 0 m σ H) ∧ ∀ i m σ H, W i m σ H →
      ((Itr 0 n.toNat).stop i H ∧ D.nx σ H) ∨ ((Itr 0 n.toNat).go i H ∧ ∃ N : L2.St → Hp → Prop, (∀ σ' H', N σ' H' → ∃ m', m' < m ∧ W (i + 1) m' σ' H') ∧ ∀ x H', (Itr 0 n.toNat).yld i H x H' → g x σ H' fun σ2 H2 => tb { D with nx := N, ct := N, bk := D.nx } σ2 H2) :=
  ⟨hb.1, hb.2, for_range Pv h0 (fun i σ H hi p => by rw [Int.zero_add]; exact hs i σ H (by omega) p) hd⟩
/-- [elt for x in ..]: the word speaks of the list so far and of the heap -/
theorem r_lc {wi : TI} {tt : TT} {te : TE} {vs : List Nat} (q : wi σ H fun J H1 => ∀ D, H1 D = none → ∃ W : Nat → Nat → Hp → Prop, (∃ m, W 0 m (upd H1 D (.lst []))) ∧ ∀ i m H, W i m H →
  (J.stop i H ∧ Q (.ref D) H) ∨ (J.go i H ∧ ∃ Nx : Hp → Prop, (∀ H', Nx H' → ∃ m', m' < m ∧ W (i + 1) m' H') ∧ ∀ x H', J.yld i H x H' → g x (wipe σ vs) H' fun σ2 H2 => wipe σ2 vs = wipe σ vs ∧ tt σ2 H2 fun b H3 =>
    if b = true then te σ2 H3 fun y H4 => ∃ acc, H4 D = some (.lst acc) ∧ acc.length < sizeLine ∧ Nx (upd H4 D (.lst (acc ++ [y]))) else Nx H3)) : tLc wi g tt te vs σ H Q := q
theorem r_yes {R : Bool → Hp → Prop} (q : R true H) : tYes σ H R := q
def LcPush (D : Addr) (I : Addr → Nat → List V → Hp → Prop) (i : Nat) (H : Hp) (y : V) : Prop := ∃ acc, H D = some (.lst acc) ∧ acc.length < sizeLine ∧ ∃ acc', (upd H D (.lst (acc ++ [y]))) D = some (.lst acc') ∧ I D (i + 1) acc' (upd H D (.lst (acc ++ [y])))
def LcSkip (D : Addr) (I : Addr → Nat → List V → Hp → Prop) (i : Nat) (H : Hp) : Prop := ∃ acc, H D = some (.lst acc) ∧ I D (i + 1) acc H
theorem u_push {D : Addr} {I : Addr → Nat → List V → Hp → Prop} {i : Nat} {y : V} {acc : List V} (h : H D = some (.lst acc)) (l : acc.length < 100000) (q : I D (i + 1) (acc ++ [y]) (upd H D (.lst (acc ++ [y])))) : LcPush D I i H y :=
  ⟨acc, h, Nat.lt_of_lt_of_le l (by decide), acc ++ [y], upd_same, q⟩
theorem u_lcL {tt : TT} {te : TE} {vs : List Nat} {Qd : Addr → Hp → Prop} (h : SqL K H p xs) (I : Addr → Nat → List V → Hp → Prop) (h0 : ∀ D, H D = none → I D 0 [] (upd H D (.lst [])))
    (hl : ∀ D i acc H', H D = none → H' D = some (.lst acc) → I D i acc H' → SqL K H' p xs)
    (hs : ∀ D i x acc H', H D = none → xs[i]? = some x → H' D = some (.lst acc) → I D i acc H' → g x (wipe σ vs) H' fun σ2 H2 => wipe σ2 vs = wipe σ vs ∧ tt σ2 H2 fun b H3 => if b = true then te σ2 H3 fun y H4 => LcPush D I i H4 y else LcSkip D I i H3)
    (hd : ∀ D acc H', H D = none → H' D = some (.lst acc) → I D xs.length acc H' → Qd D H') :
    ∃ a, V.ref p = .ref a ∧ (∃ xs, SqL K H a xs) ∧ ∀ D, H D = none → ∃ W : Nat → Nat → Hp → Prop, (∃ m, W 0 m (upd H D (.lst []))) ∧ ∀ i m H, W i m H →
      ((Itl K a).stop i H ∧ Qd D H) ∨ ((Itl K a).go i H ∧ ∃ Nx : Hp → Prop, (∀ H', Nx H' → ∃ m', m' < m ∧ W (i + 1) m' H') ∧ ∀ x H', (Itl K a).yld i H x H' → g x (wipe σ vs) H' fun σ2 H2 => wipe σ2 vs = wipe σ vs ∧ tt σ2 H2 fun b H3 =>
        if b = true then te σ2 H3 fun y H4 => ∃ acc, H4 D = some (.lst acc) ∧ acc.length < sizeLine ∧ Nx (upd H4 D (.lst (acc ++ [y]))) else Nx H3) :=
  ⟨p, rfl, ⟨xs, h⟩, fun D hD => lc_list (xs := xs) (fun i H' => ∃ acc, H' D = some (.lst acc) ∧ I D i acc H') ⟨[], upd_same, h0 D hD⟩ (fun i H' _ ⟨acc, e, q⟩ => hl D i acc H' hD e q)
    (fun i x H' hi ⟨acc, e, q⟩ => hs D i x acc H' hD hi e q) fun H' ⟨acc, e, q⟩ => hd D acc H' hD e q⟩
theorem u_lc1 {tt : TT} {te : TE} {vs : List Nat} {Qd : Addr → Hp → Prop} {n : Int} (hb : -(2 ^ 62) ≤ n ∧ n < 2 ^ 62) (I : Addr → Nat → List V → Hp → Prop) (h0 : ∀ D, H D = none → I D 0 [] (upd H D (.lst [])))
    (hs : ∀ D (i : Nat) acc H', H D = none → (i : Int) < n → H' D = some (.lst acc) → I D i acc H' → g (.int (i : Int)) (wipe σ vs) H' fun σ2 H2 => wipe σ2 vs = wipe σ vs ∧ tt σ2 H2 fun b H3 => if b = true then te σ2 H3 fun y H4 => LcPush D I i H4 y else LcSkip D I i H3)
    (hd : ∀ D acc H', H D = none → H' D = some (.lst acc) → I D n.toNat acc H' → Qd D H') :
    -(2 ^ 62) ≤ n ∧ n < 2 ^ 62 ∧ ∀ D, H D = none → ∃ W : Nat → Nat → Hp → Prop, (∃ m, W 0 m (upd H D (.lst []))) ∧ ∀ i m H, W i m H →
      ((Itr 0 n.toNat).stop i H ∧ Qd D H) ∨ ((Itr 0 n.toNat).go i H ∧ ∃ Nx : Hp → Prop, (∀ H', Nx H' → ∃ m', m' < m ∧ W (i + 1) m' H') ∧ ∀ x H', (Itr 0 n.toNat).yld i H x H' → g x (wipe σ vs) H' fun σ2 H2 => wipe σ2 vs = wipe σ vs ∧ tt σ2 H2 fun b H3 =>
        if b = true then te σ2 H3 fun y H4 => ∃ acc, H4 D = some (.lst acc) ∧ acc.length < sizeLine ∧ Nx (upd H4 D (.lst (acc ++ [y]))) else Nx H3) :=
  ⟨hb.1, hb.2, fun D hD => lc_range (fun i H' => ∃ acc, H' D = some (.lst acc) ∧ I D i acc H') ⟨[], upd_same, h0 D hD⟩
    (fun i H' hi ⟨acc, e, q⟩ => by rw [Int.zero_add]; exact hs D i acc H' hD (by omega) e q) fun H' ⟨acc, e, q⟩ => hd D acc H' hD e q⟩
end
/-! ### heaps -/
/-- the heap at a, in words: looked up through stores -/
theorem h_keep {H : Hp} {a p : Addr} {o u : HO} (h : H a = some u) (n : H p = none) : upd H p o a = some u := (upd_ne (ne_of_none h n)).trans h
/-- all that was tracked but what stands at a -/
def But (a : Addr) (H H' : Hp) : Prop := ∀ b o, b ≠ a → H b = some o → H' b = some o
theorem But.refl (a : Addr) (H : Hp) : But a H H := fun _ _ _ h => h
theorem But.trans {a : Addr} {H H1 H2 : Hp} (h : But a H H1) (k : But a H1 H2) : But a H H2 := fun b o n e => k b o n (h b o n e)
theorem But.new {a p : Addr} {H H' : Hp} {o : HO} (h : But a H H') (n : H' p = none) : But a H (upd H' p o) := fun b u nb e => h_keep (h b u nb e) n
theorem But.self {a : Addr} {H H' : Hp} {o : HO} (h : But a H H') : But a H (upd H' a o) := fun b u nb e => (upd_ne nb).trans (h b u nb e)
theorem But.put {a p : Addr} {H H' : Hp} {o : HO} (h : But a H H') (n : H p = none) : But a H (upd H' p o) := fun b u nb e => (upd_ne (ne_of_none e n)).trans (h b u nb e)
theorem Same.at {H H' : Hp} {a : Addr} {o : HO} (s : Same H H') (h : H a = some o) : H' a = some o := s a o h
theorem But.at {H H' : Hp} {a b : Addr} {o : HO} (s : But b H H') (n : a ≠ b) (h : H a = some o) : H' a = some o := s a o n h
theorem log_small {n : Int} (h : n.natAbs < 2 ^ 8000) : n.natAbs.log2 < 9000 := by
  by_cases h0 : n.natAbs = 0
  · rw [h0]; decide
  · exact Nat.lt_of_lt_of_le ((Nat.log2_lt h0).mpr h) (by decide)
theorem Same.new0 {p : Addr} {H : Hp} {o : HO} (n : H p = none) : Same H (upd H p o) := fun b u e => h_keep e n
theorem Same.new {p : Addr} {H H' : Hp} {o : HO} (h : Same H H') (n : H' p = none) : Same H (upd H' p o) := fun b u e => h_keep (h b u e) n
theorem Same.put {p : Addr} {H H' : Hp} {o : HO} (h : Same H H') (n : H p = none) : Same H (upd H' p o) := fun b u e => (upd_ne (ne_of_none e n)).trans (h b u e)
theorem Same.but {H H' : Hp} (h : Same H H') (a : Addr) : But a H H' := fun b u _ e => h b u e
theorem But.free {a p : Addr} {H H' : Hp} (h : But a H H') (n : p ≠ a) (e : H' p = none) : H p = none := by
  cases q : H p with
  | none => rfl
  | some o => rw [h p o n q] at e; cases e
/-- what is new may change -/
theorem Same.but2 {a : Addr} {H H1 H2 : Hp} (s : Same H H1) (n : H a = none) (b : But a H1 H2) : Same H H2 := fun c o e => b c o (ne_of_none e n) (s c o e)
/-- the law's bag: three ints, the second one small -/
def Bag (H : Hp) (a : Addr) : Prop := ∃ x y z : Int, H a = some (.lst [.int x, .int y, .int z]) ∧ 0 ≤ y ∧ y ≤ 2147483647 ∧ 0 ≤ z
theorem Bag.keep {H : Hp} {a p : Addr} {o : HO} (h : Bag H a) (n : H p = none) : Bag (upd H p o) a := by
  obtain ⟨x, y, z, e, r⟩ := h
  exact ⟨x, y, z, h_keep e n, r⟩
theorem Bag.ne {H : Hp} {a p : Addr} (h : Bag H a) (n : H p = none) : p ≠ a := by
  obtain ⟨x, y, z, e, r⟩ := h
  exact (ne_of_none e n).symm
theorem Bag.same {H H' : Hp} {a : Addr} (h : Bag H a) (s : Same H H') : Bag H' a := by
  obtain ⟨x, y, z, e, r⟩ := h
  exact ⟨x, y, z, s _ _ e, r⟩
def spBagOf : Sp := fun vs H Q _ => ∃ c : Int, vs = [.int c] ∧ ∀ p H', H p = none → Same H H' → Bag H' p → Q (.ref p) H'
def spPick : Sp := fun vs H Q _ => ∃ (a : Addr) (n : Int), vs = [.ref a, .int n] ∧ Bag H a ∧ 0 < n ∧ n ≤ 1000000 ∧ ∀ (r : Int) H', 0 ≤ r → r < n → But a H H' → Bag H' a → Q (.int r) H'
theorem u_pick {H : Hp} {Q : VK} {E : XK} {a : Addr} {n : Int} (h : Bag H a) (n0 : 0 < n) (n1 : n ≤ 1000000) (q : ∀ (r : Int) H', 0 ≤ r → r < n → But a H H' → Bag H' a → Q (.int r) H') : spPick [.ref a, .int n] H Q E := ⟨a, n, rfl, h, n0, n1, q⟩
/-- the law's promise: a list of at most 63 ints goes in, True comes out -/
def spLaw (K : PySem.W.Frag) : Sp := fun vs H Q _ => ∃ (a : Addr) (ns : List Int), vs = [.ref a] ∧ SqL K H a (ns.map V.int) ∧ ns.length ≤ 63 ∧ ∀ H', Q (.bl true) H'
/-- the cells of a law's outer loop are ints -/
theorem cells_int {g : Int} {ns : List Int} {lo hi : Option Int} {i : Nat} {x : V} (h : ([V.int g] ++ cutV (ns.map V.int) lo hi)[i]? = some x) : ∃ c, x = .int c := by
  rcases List.mem_append.mp (List.mem_of_getElem? h) with h | h
  · exact ⟨g, List.mem_singleton.mp h⟩
  · obtain ⟨c, _, e⟩ := List.mem_map.mp (cut_mem h)
    exact ⟨c, e.symm⟩
/-! ### the rules that name the written part, with its name given (a comprehension's block has another context) -/
section
variable {X : Cx} {K : PySem.W.Frag}
theorem ix_listK (h : X.K = K := by rfl) : IxR X (rIxL K) := by subst h; exact ix_list
theorem call_isiKK (h : X.K = K := by rfl) : CallR X (.builtin "isinstance") (rIsi K) := by subst h; exact call_isi
theorem call_allK (hc : X.calm = true := by rfl) (h : X.K = K := by rfl) : CallR X (.builtin "all") (rAll K) := by subst h; exact cr_all hc
theorem call_anyK (hc : X.calm = true := by rfl) (h : X.K = K := by rfl) : CallR X (.builtin "any") (rAny K) := by subst h; exact cr_any hc
end
end My

set_option Elab.async false
set_option linter.all false
set_option maxRecDepth 100000
set_option maxHeartbeats 2000000
namespace My
open PySem PySem.Spec PyProof.Rows L2
/-! ### what the head's run looks at: error classes with an own __init__, the keys of a table of words -/
/-- the class at C is an error class with an own __init__, over ValueError (looked at by the head's run) -/
def oexIn (K : PySem.W.Frag) (C : Addr) : Bool := match List.lookup C K with
  | some o => (o.cls == Value.type "type") && (match o.data with
    | .cls cd => (match cd.mro with | .ref C' :: bm => (C' == C) && HandSPX.refsVE bm | _ => false) && cd.hasDict && !cd.hasDel
    | _ => false) && (match o.slots.toList with | [_, _, _, _, v, _] => v == some (.builtin "ValueError.__new__") | _ => false)
  | none => false
theorem oexIn_ok {K : PySem.W.Frag} {C : Addr} (h : oexIn K C = true) : ∃ nm q N bs bm sn sub ab col dd k0 k1 k2 k3 k5, List.lookup C K = some (excClassObj nm q C N bs bm true sn sub ab col dd k0 k1 k2 k3 k5 "ValueError.__new__") ∧ HandSPX.refsVE bm = true := by
  unfold oexIn at h
  cases e : List.lookup C K with
  | none => rw [e] at h; cases h
  | some o =>
    rw [e] at h
    obtain ⟨cls, dd, data, slots⟩ := o
    simp only [Bool.and_eq_true] at h
    obtain ⟨⟨h1, h2⟩, h3⟩ := h
    have h1 : cls = Value.type "type" := eq_of_beq h1
    subst h1
    cases data with
    | cls cd =>
      obtain ⟨nm, bs, mro, N, q, hd, sn, sub, ab, col, del⟩ := cd
      simp only [Bool.and_eq_true] at h2
      obtain ⟨⟨h4, h5⟩, h6⟩ := h2
      subst h5
      have h6 : del = false := by cases del <;> simp_all
      subst h6
      cases mro with
      | nil => cases h4
      | cons v bm =>
        cases v with
        | ref C' =>
          simp only [Bool.and_eq_true] at h4
          obtain rfl : C' = C := eq_of_beq h4.1
          obtain ⟨sl⟩ := slots
          match sl, h3 with
          | [k0, k1, k2, k3, v, k5], h3 =>
            have h3 : v = some (.builtin "ValueError.__new__") := eq_of_beq h3
            subst h3
            exact ⟨nm, q, N, bs, bm, sn, sub, ab, col, dd, k0, k1, k2, k3, k5, rfl, h4.2⟩
        | _ => cases h4
    | _ => cases h2
theorem isFn_type {K : PySem.W.Frag} {f : Addr} (h : PySem.W.isFn K (.ref f) = true) : PySem.W.typeIn K (.ref f) = some (.type "function") := by
  unfold PySem.W.isFn at h
  simpa using h
end My

set_option Elab.async false
set_option linter.all false
set_option maxRecDepth 100000
set_option maxHeartbeats 2000000
namespace My
open PySem PySem.Spec PyProof.Rows L2
/-! ### what the head's run looks at: which error class is below which -/
/-- no two of the classes are below one another -/
def matB (K : PySem.W.Frag) (AS : List Addr) : Bool := (List.range AS.length).all fun i => (List.range AS.length).all fun j => decide (PySem.W.subIn K (.ref (AS.getD i 0)) (.ref (AS.getD j 0)) = some (decide (i = j)))
/-- all are below B, B is below none -/
def angB (K : PySem.W.Frag) (B : Addr) (AS : List Addr) : Bool := AS.all fun A => decide (PySem.W.subIn K (.ref A) (.ref B) = some true) && decide (PySem.W.subIn K (.ref B) (.ref A) = some false)
def valB (K : PySem.W.Frag) (AS : List Addr) : Bool := AS.all fun A => decide (PySem.W.subIn K (.ref A) (.type "ValueError") = some true)
end My

set_option Elab.async false
set_option linter.all false
set_option maxRecDepth 400000
namespace My
open PySem PySem.Spec PyProof.Rows L2
/-! ### programs as data -/
inductive Prog where
  | nil
  | step (w n : Str) (r : Prog)
  | turn (k : Int) (r : Prog)
  | rep (k : Int) (b r : Prog)
  | mir (b r : Prog)
namespace Prog
def app : Prog → Prog → Prog
  | .nil, q => q
  | .step w n r, q => .step w n (r.app q)
  | .turn k r, q => .turn k (r.app q)
  | .rep k b r, q => .rep k b (r.app q)
  | .mir b r, q => .mir b (r.app q)
def len : Prog → Nat
  | .nil => 0
  | .step _ _ r => r.len + 1
  | .turn _ r => r.len + 1
  | .rep _ _ r => r.len + 1
  | .mir _ r => r.len + 1
def size : Prog → Int
  | .nil => 0
  | .step _ _ r => 1 + r.size
  | .turn _ r => 1 + r.size
  | .rep k b r => k * b.size + r.size
  | .mir b r => b.size + r.size
def head : Prog → Int
  | .nil => 0
  | .step _ _ r => r.head
  | .turn k r => k + r.head
  | .rep k b r => k * b.head + r.head
  | .mir b r => -b.head + r.head
def times : Nat → Prog → Prog
  | 0, _ => .nil
  | n + 1, p => p.app (times n p)
def unroll : Int → Prog → Prog
  | _, .nil => .nil
  | s, .step w n r => .step w n (unroll s r)
  | s, .turn k r => .turn (s * k) (unroll s r)
  | s, .rep k b r => (times k.toNat (unroll s b)).app (unroll s r)
  | s, .mir b r => (unroll (-s) b).app (unroll s r)
/-- the turns' numbers of a flat program -/
def turns : Prog → List Int
  | .nil => []
  | .step _ _ r => r.turns
  | .turn k r => k :: r.turns
  | .rep _ _ r => r.turns
  | .mir _ r => r.turns
end Prog
def IsWord (w : Str) : Prop := w = "go" ∨ w = "back" ∨ w = "hop" ∨ w = "slip"
/-- one letter from a to z -/
def IsName (n : Str) : Prop := ∃ c : Nat, n = ⟨#[c]⟩ ∧ 97 ≤ c ∧ c ≤ 122
/-- a program nested at most d deep; counts from 1 to C, turns to T of either sign, at most 4000 commands in each repeat or mirror -/
def WfL (L : Nat) (C T : Int) : Nat → Prog → Prop
  | _, .nil => True
  | d, .step w n r => IsWord w ∧ IsName n ∧ WfL L C T d r
  | d, .turn k r => (-T ≤ k ∧ k ≤ T) ∧ WfL L C T d r
  | 0, .rep _ _ _ => False
  | d + 1, .rep k b r => (1 ≤ k ∧ k ≤ C) ∧ (1 ≤ b.len ∧ b.len ≤ L) ∧ WfL L C T d b ∧ WfL L C T (d + 1) r
  | 0, .mir _ _ => False
  | d + 1, .mir b r => (1 ≤ b.len ∧ b.len ≤ L) ∧ WfL L C T d b ∧ WfL L C T (d + 1) r
theorem WfL.app {L : Nat} {C T : Int} : ∀ {d : Nat} {p q : Prog}, WfL L C T d p → WfL L C T d q → WfL L C T d (p.app q)
  | _, .nil, _, _, h => h
  | d, .step w n r, q, h, h' => by
    cases d <;> exact ⟨h.1, h.2.1, WfL.app h.2.2 h'⟩
  | d, .turn k r, q, h, h' => by
    cases d <;> exact ⟨h.1, WfL.app h.2 h'⟩
  | 0, .rep _ _ _, _, h, _ => h.elim
  | d + 1, .rep k b r, q, h, h' => ⟨h.1, h.2.1, h.2.2.1, WfL.app h.2.2.2 h'⟩
  | 0, .mir _ _, _, h, _ => h.elim
  | d + 1, .mir b r, q, h, h' => ⟨h.1, h.2.1, WfL.app h.2.2 h'⟩
theorem WfL.step_iff {L : Nat} {C T : Int} {d : Nat} {w n : Str} {r : Prog} : WfL L C T d (.step w n r) ↔ IsWord w ∧ IsName n ∧ WfL L C T d r := by cases d <;> exact Iff.rfl
theorem WfL.turn_iff {L : Nat} {C T : Int} {d : Nat} {k : Int} {r : Prog} : WfL L C T d (.turn k r) ↔ (-T ≤ k ∧ k ≤ T) ∧ WfL L C T d r := by cases d <;> exact Iff.rfl
theorem WfL.nil {L : Nat} {C T : Int} {d : Nat} : WfL L C T d .nil := by cases d <;> trivial
theorem WfL.mono {L : Nat} {C T C' T' : Int} (hC : C ≤ C') (hT : T ≤ T') : ∀ {d d' : Nat} {p : Prog}, d ≤ d' → WfL L C T d p → WfL L C' T' d' p
  | d, d', .nil, _, _ => WfL.nil
  | d, d', .step w n r, hd, h => WfL.step_iff.mpr ⟨(WfL.step_iff.mp h).1, (WfL.step_iff.mp h).2.1, WfL.mono hC hT hd (WfL.step_iff.mp h).2.2⟩
  | d, d', .turn k r, hd, h => by
    have h := WfL.turn_iff.mp h
    exact WfL.turn_iff.mpr ⟨⟨by omega, by omega⟩, WfL.mono hC hT hd h.2⟩
  | 0, _, .rep _ _ _, _, h => h.elim
  | d + 1, 0, .rep _ _ _, hd, _ => absurd hd (by omega)
  | d + 1, d' + 1, .rep k b r, hd, h => ⟨⟨h.1.1, by have := h.1.2; omega⟩, h.2.1, WfL.mono hC hT (by omega) h.2.2.1, WfL.mono hC hT hd h.2.2.2⟩
  | 0, _, .mir _ _, _, h => h.elim
  | d + 1, 0, .mir _ _, hd, _ => absurd hd (by omega)
  | d + 1, d' + 1, .mir b r, hd, h => ⟨h.1, WfL.mono hC hT (by omega) h.2.1, WfL.mono hC hT hd h.2.2⟩
namespace Prog
end Prog
end My

set_option Elab.async false
set_option linter.all false
set_option maxRecDepth 100000
namespace My
open PySem PySem.Spec PyProof.Rows L2
/-! ### programs on the heap -/
/-- the tuples stay -/
def Tk (H H' : Hp) : Prop := ∀ c xs, H c = some (.tup xs) → H' c = some (.tup xs)
theorem Tk.refl (H : Hp) : Tk H H := fun _ _ h => h
theorem Tk.trans {H H1 H2 : Hp} (h : Tk H H1) (k : Tk H1 H2) : Tk H H2 := fun c xs e => k c xs (h c xs e)
theorem Tk.same {H H' : Hp} (h : Same H H') : Tk H H' := fun c xs e => h c _ e
theorem Tk.but {H H' : Hp} {a : Addr} (h : But a H H') (b : Bag H a) : Tk H H' := fun c xs e => by
  obtain ⟨x, y, z, ea, _⟩ := b
  exact h c _ (ne_of e ea (by intro z; cases z)) e
theorem Tk.new {H H' : Hp} {p : Addr} {o : HO} (h : Tk H H') (n : H' p = none) : Tk H (upd H' p o) := fun c xs e => h_keep (h c xs e) n
theorem Tk.lst {H H' : Hp} {p : Addr} {l : List V} {o : HO} (h : Tk H H') (n : H' p = some (.lst l)) : Tk H (upd H' p o) := fun c xs e => (upd_ne (ne_of (h c xs e) n (by intro z; cases z))).trans (h c xs e)
def PrAt (H : Hp) : Prog → List V → Prop
  | .nil, xs => xs = []
  | .step w n r, xs => ∃ c ys, xs = .ref c :: ys ∧ H c = some (.tup [.str w, .str n]) ∧ PrAt H r ys
  | .turn k r, xs => ∃ c ys, xs = .ref c :: ys ∧ H c = some (.tup [.str "turn", .int k]) ∧ PrAt H r ys
  | .rep k b r, xs => ∃ c q zs ys, xs = .ref c :: ys ∧ H c = some (.tup [.str "repeat", .int k, .ref q]) ∧ H q = some (.tup zs) ∧ PrAt H b zs ∧ PrAt H r ys
  | .mir b r, xs => ∃ c q zs ys, xs = .ref c :: ys ∧ H c = some (.tup [.str "mirror", .ref q]) ∧ H q = some (.tup zs) ∧ PrAt H b zs ∧ PrAt H r ys
def PrIs (H : Hp) (a : Addr) (p : Prog) : Prop := ∃ xs, H a = some (.tup xs) ∧ PrAt H p xs
theorem PrAt.tk {H H' : Hp} (t : Tk H H') : ∀ {p : Prog} {xs : List V}, PrAt H p xs → PrAt H' p xs
  | .nil, _, h => h
  | .step w n r, _, ⟨c, ys, e, h1, h2⟩ => ⟨c, ys, e, t _ _ h1, h2.tk t⟩
  | .turn k r, _, ⟨c, ys, e, h1, h2⟩ => ⟨c, ys, e, t _ _ h1, h2.tk t⟩
  | .rep k b r, _, ⟨c, q, zs, ys, e, h1, h2, h3, h4⟩ => ⟨c, q, zs, ys, e, t _ _ h1, t _ _ h2, h3.tk t, h4.tk t⟩
  | .mir b r, _, ⟨c, q, zs, ys, e, h1, h2, h3, h4⟩ => ⟨c, q, zs, ys, e, t _ _ h1, t _ _ h2, h3.tk t, h4.tk t⟩
theorem PrIs.tk {H H' : Hp} {a : Addr} {p : Prog} (h : PrIs H a p) (t : Tk H H') : PrIs H' a p := let ⟨xs, e, q⟩ := h; ⟨xs, t _ _ e, q.tk t⟩
theorem PrAt.length {H : Hp} : ∀ {p : Prog} {xs : List V}, PrAt H p xs → xs.length = p.len
  | .nil, _, h => by rw [show _ = [] from h]; rfl
  | .step w n r, _, ⟨c, ys, e, h1, h2⟩ => by rw [e, List.length_cons, h2.length]; rfl
  | .turn k r, _, ⟨c, ys, e, h1, h2⟩ => by rw [e, List.length_cons, h2.length]; rfl
  | .rep k b r, _, ⟨c, q, zs, ys, e, h1, h2, h3, h4⟩ => by rw [e, List.length_cons, h4.length]; rfl
  | .mir b r, _, ⟨c, q, zs, ys, e, h1, h2, h3, h4⟩ => by rw [e, List.length_cons, h4.length]; rfl
theorem PrAt.app {H : Hp} : ∀ {p q : Prog} {xs ys : List V}, PrAt H p xs → PrAt H q ys → PrAt H (p.app q) (xs ++ ys)
  | .nil, q, xs, ys, h, k => by rw [show xs = [] from h]; exact k
  | .step w n r, q, _, ys, ⟨c, zs, e, h1, h2⟩, k => ⟨c, zs ++ ys, by rw [e]; rfl, h1, h2.app k⟩
  | .turn k' r, q, _, ys, ⟨c, zs, e, h1, h2⟩, k => ⟨c, zs ++ ys, by rw [e]; rfl, h1, h2.app k⟩
  | .rep k' b r, q, _, ys, ⟨c, q', zs, ws, e, h1, h2, h3, h4⟩, k => ⟨c, q', zs, ws ++ ys, by rw [e]; rfl, h1, h2, h3, h4.app k⟩
  | .mir b r, q, _, ys, ⟨c, q', zs, ws, e, h1, h2, h3, h4⟩, k => ⟨c, q', zs, ws ++ ys, by rw [e]; rfl, h1, h2, h3, h4.app k⟩
/-- x is the first command of r, r' the rest -/
def First (H : Hp) : Prog → V → Prog → Prop
  | .nil, _, _ => False
  | .step w n r, x, r' => ∃ c, x = .ref c ∧ H c = some (.tup [.str w, .str n]) ∧ r' = r
  | .turn k r, x, r' => ∃ c, x = .ref c ∧ H c = some (.tup [.str "turn", .int k]) ∧ r' = r
  | .rep k b r, x, r' => ∃ c q, x = .ref c ∧ H c = some (.tup [.str "repeat", .int k, .ref q]) ∧ PrIs H q b ∧ r' = r
  | .mir b r, x, r' => ∃ c q, x = .ref c ∧ H c = some (.tup [.str "mirror", .ref q]) ∧ PrIs H q b ∧ r' = r
theorem First.tk {H H' : Hp} {r r' : Prog} {x : V} (h : First H r x r') (t : Tk H H') : First H' r x r' := by
  cases r with
  | nil => exact h.elim
  | step w n r => obtain ⟨c, e, h1, e2⟩ := h; exact ⟨c, e, t _ _ h1, e2⟩
  | turn k r => obtain ⟨c, e, h1, e2⟩ := h; exact ⟨c, e, t _ _ h1, e2⟩
  | rep k b r => obtain ⟨c, q, e, h1, h2, e2⟩ := h; exact ⟨c, q, e, t _ _ h1, h2.tk t, e2⟩
  | mir b r => obtain ⟨c, q, e, h1, h2, e2⟩ := h; exact ⟨c, q, e, t _ _ h1, h2.tk t, e2⟩
theorem PrAt.first {H : Hp} {r : Prog} {x : V} {ys : List V} (h : PrAt H r (x :: ys)) : ∃ r', First H r x r' ∧ PrAt H r' ys := by
  cases r with
  | nil => cases (show (x :: ys) = [] from h)
  | step w n r => obtain ⟨c, zs, e, h1, h2⟩ := h; cases e; exact ⟨r, ⟨c, rfl, h1, rfl⟩, h2⟩
  | turn k r => obtain ⟨c, zs, e, h1, h2⟩ := h; cases e; exact ⟨r, ⟨c, rfl, h1, rfl⟩, h2⟩
  | rep k b r => obtain ⟨c, q, zs, ws, e, h1, h2, h3, h4⟩ := h; cases e; exact ⟨r, ⟨c, q, rfl, h1, ⟨zs, h2, h3⟩, rfl⟩, h4⟩
  | mir b r => obtain ⟨c, q, zs, ws, e, h1, h2, h3, h4⟩ := h; cases e; exact ⟨r, ⟨c, q, rfl, h1, ⟨zs, h2, h3⟩, rfl⟩, h4⟩
theorem PrAt.cons {H : Hp} {r r' : Prog} {x : V} {ys : List V} (h : First H r x r') (k : PrAt H r' ys) : PrAt H r (x :: ys) := by
  cases r with
  | nil => exact h.elim
  | step w n r => obtain ⟨c, rfl, h1, rfl⟩ := h; exact ⟨c, ys, rfl, h1, k⟩
  | turn n r => obtain ⟨c, rfl, h1, rfl⟩ := h; exact ⟨c, ys, rfl, h1, k⟩
  | rep n b r => obtain ⟨c, q, rfl, h1, ⟨zs, h2, h3⟩, rfl⟩ := h; exact ⟨c, q, zs, ys, rfl, h1, h2, h3, k⟩
  | mir b r => obtain ⟨c, q, rfl, h1, ⟨zs, h2, h3⟩, rfl⟩ := h; exact ⟨c, q, zs, ys, rfl, h1, h2, h3, k⟩
section
variable {σ : L2.St} {H : Hp} {K : PySem.W.Frag} {D : Ends} {tb : TS} {g : TG} {a : Addr} {xs : List V} {p : Prog}
end
/-! ### texts -/
section
variable {σ : L2.St} {H : Hp} {Q : VK} {K : PySem.W.Frag} {ta tb tc : TE} {p : Addr}
def rLenS (xs : List V) (H : Hp) (Q : VK) : Prop := ∃ z : Str, xs = [.str z] ∧ z.length ≤ sizeLine ∧ Q (.int z.length) H
theorem call_lenS {X : Cx} : CallR X (.builtin "len") rLenS := call_len_str
theorem r_lenS {z : Str} (l : z.length ≤ 100000) (q : Q (.int z.length) H) : rLenS [.str z] H Q := ⟨z, rfl, small_of l, q⟩
def rLeS : R2 := fun x y H Q => ∃ i j : Str, x = .str i ∧ y = .str j ∧ Q (.bl (!decide (j.cps.toList < i.cps.toList))) H
theorem r_leS {i j : Str} (q : Q (.bl (!decide (j.cps.toList < i.cps.toList))) H) : rLeS (.str i) (.str j) H Q := ⟨i, j, rfl, rfl, q⟩
theorem r_chain {r r' : R2} (q : ta σ H fun x H1 => tb σ H1 fun y H2 => r x y H2 fun z H3 => ∃ k, z = .bl k ∧ (if k = true then tc σ H3 fun w' H4 => r' y w' H4 Q else Q (.bl false) H3)) : tChain r r' ta tb tc σ H Q := q
theorem r_ixS {z : Str} {n : Int} {c : Nat} (l : z.length ≤ 100000) (e : atI z.cps.toList n = some c) (q : Q (.str ⟨#[c]⟩) H) : rIxS (.str z) (.int n) H Q := ⟨z, n, c, rfl, rfl, small_of l, e, q⟩
theorem r_all {bs : List Bool} (h : SqL K H p (bs.map V.bl)) (q : Q (.bl (bs.all id)) H) : rAll K [.ref p] H Q := ⟨p, bs, rfl, h, q⟩
theorem r_any {bs : List Bool} (h : SqL K H p (bs.map V.bl)) (q : Q (.bl (bs.any id)) H) : rAny K [.ref p] H Q := ⟨p, bs, rfl, h, q⟩
end
/-! ### tuples and lists of things that stand -/
section
variable {σ : L2.St} {H : Hp} {Q : VK} {K : PySem.W.Frag} {to te : TE} {p b : Addr} {xs ys : List V}
def rTupL (K : PySem.W.Frag) (vs : List V) (H : Hp) (Q : VK) : Prop := ∃ p ys, vs = [.ref p] ∧ SqL K H p ys ∧ ∀ l, H l = none → Q (.ref l) (upd H l (.tup ys))
theorem r_tupL (h : H p = some (.lst xs)) (q : ∀ l, H l = none → Q (.ref l) (upd H l (.tup xs))) : rTupL K [.ref p] H Q := ⟨p, xs, rfl, .of h, q⟩
def rListT (K : PySem.W.Frag) (vs : List V) (H : Hp) (Q : VK) : Prop := ∃ p ys, vs = [.ref p] ∧ (SqL K H p ys ∨ SqT K H p ys) ∧ ∀ l, H l = none → Q (.ref l) (upd H l (.lst ys))
theorem r_listL (h : H p = some (.lst xs)) (q : ∀ l, H l = none → Q (.ref l) (upd H l (.lst xs))) : rListT K [.ref p] H Q := ⟨p, xs, rfl, .inl (.of h), q⟩
theorem r_listT (h : H p = some (.tup xs)) (q : ∀ l, H l = none → Q (.ref l) (upd H l (.lst xs))) : rListT K [.ref p] H Q := ⟨p, xs, rfl, .inr (.of h), q⟩
theorem r_tM1 {r : V → List V → Hp → VK → Prop} (q : to σ H fun x H1 => (∃ a, x = .str a) ∧ te σ H1 fun y H2 => r x [y] H2 Q) : tM1 r to te σ H Q := q
theorem r_exS {z : Str} {A : Prop} (q : A) : (∃ a, V.str z = V.str a) ∧ A := ⟨⟨z, rfl⟩, q⟩
end
def sign1 (c : Nat) : Str := ⟨#[c]⟩
theorem app_toList (x y : Str) : (x ++ y).cps.toList = x.cps.toList ++ y.cps.toList := by
  show (x.cps ++ y.cps).toList = _
  exact Array.toList_append
theorem join_signs {s : Str} (hs : s.cps.toList = []) : ∀ cs : List Nat, (Txt.join s (cs.map sign1)).cps.toList = cs := fun cs => by
  rw [TL.join_eq]
  induction cs with
  | nil => rfl
  | cons c r ih =>
    cases r with
    | nil => rfl
    | cons d r =>
      show (sign1 c ++ s ++ Str.join s ((d :: r).map sign1)).cps.toList = _
      rw [app_toList, app_toList, hs, ih]
      rfl
/-- six letters -/
def Names (z : Str) : Prop := z.cps.toList.length = 6 ∧ ∀ c ∈ z.cps.toList, 97 ≤ c ∧ c ≤ 122
theorem letter_at {n : Int} (h0 : 0 ≤ n) (h1 : n < 26) : ∃ c, atI (("abcdefghijklmnopqrstuvwxyz" : Str)).cps.toList n = some c ∧ 97 ≤ c ∧ c ≤ 122 := by
  have hl : (("abcdefghijklmnopqrstuvwxyz" : Str)).cps.toList.length = 26 := by decide +kernel
  have ha : ∀ c ∈ (("abcdefghijklmnopqrstuvwxyz" : Str)).cps.toList, 97 ≤ c ∧ c ≤ 122 := by decide +kernel
  have h2 : n.toNat < (("abcdefghijklmnopqrstuvwxyz" : Str)).cps.toList.length := by rw [hl]; omega
  refine ⟨_, ?_, ha _ (List.getElem_mem h2)⟩
  unfold atI ixN
  rw [if_pos h0, if_pos (by rw [hl]; omega)]
  exact List.getElem?_eq_getElem h2
/-- all but what stands at a and b -/
def But2 (a b : Addr) (H H' : Hp) : Prop := ∀ c o, c ≠ a → c ≠ b → H c = some o → H' c = some o
theorem But2.refl (a b : Addr) (H : Hp) : But2 a b H H := fun _ _ _ _ h => h
theorem But2.trans {a b : Addr} {H H1 H2 : Hp} (h : But2 a b H H1) (k : But2 a b H1 H2) : But2 a b H H2 := fun c o n m e => k c o n m (h c o n m e)
theorem But2.of {a b : Addr} {H H' : Hp} (h : But a H H') : But2 a b H H' := fun c o n _ e => h c o n e
theorem But2.at {a b c : Addr} {H H' : Hp} {o : HO} (h : But2 a b H H') (n : c ≠ a) (m : c ≠ b) (e : H c = some o) : H' c = some o := h c o n m e
theorem But2.new {a b p : Addr} {H H' : Hp} {o : HO} (h : But2 a b H H') (n : H' p = none) : But2 a b H (upd H' p o) := fun c u x y e => h_keep (h c u x y e) n
theorem But2.put {a b p : Addr} {H H' : Hp} {o : HO} (h : But2 a b H H') (n : H p = none) : But2 a b H (upd H' p o) := fun c u x y e => (upd_ne (ne_of_none e n)).trans (h c u x y e)
theorem But2.self {a b : Addr} {H H' : Hp} {o : HO} (h : But2 a b H H') : But2 a b H (upd H' b o) := fun c u x y e => (upd_ne y).trans (h c u x y e)
theorem But2.one {a b : Addr} {H H0 H' : Hp} (s : But a H H0) (n : H b = none) (h : But2 a b H0 H') : But a H H' := fun c o x e => h c o x (ne_of_none e n) (s c o x e)
theorem But2.free {a b p : Addr} {H H' : Hp} (h : But2 a b H H') (n : p ≠ a) (m : p ≠ b) (e : H' p = none) : H p = none := by
  cases q : H p with
  | none => rfl
  | some o => rw [h p o n m q] at e; cases e
theorem Bag.list {H : Hp} {a : Addr} (h : Bag H a) : ∃ l, H a = some (.lst l) ∧ l.length = 3 := by
  obtain ⟨x, y, z, e, _⟩ := h
  exact ⟨_, e, rfl⟩
theorem Bag.upd {H : Hp} {a p : Addr} {o : HO} (h : Bag H a) (n : a ≠ p) : Bag (upd H p o) a := by
  obtain ⟨x, y, z, e, r⟩ := h
  exact ⟨x, y, z, (upd_ne n).trans e, r⟩
theorem mulW_of {a b : Int} (ha : a.natAbs < 2 ^ 100000) (hb : b.natAbs < 2 ^ 100000) : CMulW a b := by
  unfold CMulW
  have h : ∀ {n : Nat}, n < 2 ^ 100000 → n.log2 < 100000 := fun {n} hn => by
    by_cases h0 : n = 0
    · rw [h0]; decide
    · exact (Nat.log2_lt h0).mpr hn
  have := h ha
  have := h hb
  omega
theorem ipow_mono {a : Int} (h : 1 ≤ a) {m n : Nat} (hm : m ≤ n) : a ^ m ≤ a ^ n := by
  obtain ⟨k, rfl⟩ : ∃ k, n = m + k := ⟨n - m, by omega⟩
  rw [Int.pow_add]
  have h1 : 1 ≤ a ^ k := by
    have : (0 : Int) < a ^ k := Int.pow_pos (by omega)
    omega
  have h2 : a ^ m * 1 ≤ a ^ m * a ^ k := Int.mul_le_mul_of_nonneg_left h1 (Int.le_of_lt (Int.pow_pos (by omega)))
  omega
end My

set_option Elab.async false
set_option linter.all false
set_option maxRecDepth 100000
namespace My
open PySem PySem.Spec PyProof.Rows L2
def topS (i : Nat) : Stmt := PySem.Challenge.pw_everyangle_k00_error_classes.main.body.getD i (.Pass ⟨0, 0, 0, 0⟩)
abbrev s_NotShort___init__ : Stmt := inClass (topS 12) 0
abbrev s_TooGreat___init__ : Stmt := inClass (topS 15) 0
abbrev s_InvalidWords___init__ : Stmt := inClass (topS 20) 0
abbrev s_UnknownName___init__ : Stmt := inClass (topS 22) 0
abbrev s_l_bag_of : Stmt := topS 24
abbrev s_l_pick : Stmt := topS 25
abbrev s_l_great_int : Stmt := topS 26
abbrev s_l_is_int : Stmt := topS 27
abbrev s_l_some_int : Stmt := topS 28
abbrev s_l_truths : Stmt := topS 29
abbrev s_l_objects : Stmt := topS 30
abbrev s_l_raised : Stmt := topS 31
abbrev s_l_fields : Stmt := topS 32
abbrev s_l_some_title : Stmt := topS 33
abbrev s_law : Stmt := topS 34
theorem sc_NotShort___init__ : FnScope ["self", "amount"] ["self", "amount"] (defScope s_NotShort___init__) := ⟨rfl, rfl, rfl, by decide +kernel, rfl, by decide +kernel, by decide +kernel⟩
theorem sc_TooGreat___init__ : FnScope ["self", "number"] ["self", "number"] (defScope s_TooGreat___init__) := ⟨rfl, rfl, rfl, by decide +kernel, rfl, by decide +kernel, by decide +kernel⟩
theorem sc_InvalidWords___init__ : FnScope ["self", "spot"] ["self", "spot"] (defScope s_InvalidWords___init__) := ⟨rfl, rfl, rfl, by decide +kernel, rfl, by decide +kernel, by decide +kernel⟩
theorem sc_UnknownName___init__ : FnScope ["self", "name"] ["self", "name"] (defScope s_UnknownName___init__) := ⟨rfl, rfl, rfl, by decide +kernel, rfl, by decide +kernel, by decide +kernel⟩
theorem sc_l_bag_of : FnScope ["_law_cell"] ["_law_cell"] (defScope s_l_bag_of) := ⟨rfl, rfl, rfl, by decide +kernel, rfl, by decide +kernel, by decide +kernel⟩
theorem sc_l_pick : FnScope ["_law_bag", "_law_many", "_law_digit"] ["_law_bag", "_law_many"] (defScope s_l_pick) := ⟨rfl, rfl, rfl, by decide +kernel, rfl, by decide +kernel, by decide +kernel⟩
theorem sc_l_great_int : FnScope ["_law_bag", "_law_digits", "_law_total", "_law_k", "_law_limit"] ["_law_bag", "_law_digits"] (defScope s_l_great_int) := ⟨rfl, rfl, rfl, by decide +kernel, rfl, by decide +kernel, by decide +kernel⟩
theorem sc_l_is_int : FnScope ["_law_thing"] ["_law_thing"] (defScope s_l_is_int) := ⟨rfl, rfl, rfl, by decide +kernel, rfl, by decide +kernel, by decide +kernel⟩
theorem sc_l_some_int : FnScope ["_law_bag", "_law_mode", "_law_sign"] ["_law_bag"] (defScope s_l_some_int) := ⟨rfl, rfl, rfl, by decide +kernel, rfl, by decide +kernel, by decide +kernel⟩
theorem sc_l_truths : FnScope ["_law_thing", "_law_truths_here"] ["_law_thing"] (defScope s_l_truths) := ⟨rfl, rfl, rfl, by decide +kernel, rfl, by decide +kernel, by decide +kernel⟩
theorem sc_l_objects : FnScope ["_law_text", "_law_amounts", "_law_title", "_law_made"] ["_law_text", "_law_amounts", "_law_title"] (defScope s_l_objects) := ⟨rfl, rfl, rfl, by decide +kernel, rfl, by decide +kernel, by decide +kernel⟩
theorem sc_l_raised : FnScope ["_law_way", "_law_worth", "_law_caught", "e"] ["_law_way", "_law_worth"] (defScope s_l_raised) := ⟨rfl, rfl, rfl, by decide +kernel, rfl, by decide +kernel, by decide +kernel⟩
theorem sc_l_fields : FnScope ["_law_made", "_law_amounts", "_law_title", "_law_fields_here", "_law_field"] ["_law_made", "_law_amounts", "_law_title"] (defScope s_l_fields) := ⟨rfl, rfl, rfl, by decide +kernel, rfl, by decide +kernel, by decide +kernel⟩
theorem sc_l_some_title : FnScope ["_law_bag", "_law_letters", "_law_k"] ["_law_bag"] (defScope s_l_some_title) := ⟨rfl, rfl, rfl, by decide +kernel, rfl, by decide +kernel, by decide +kernel⟩
theorem sc_law : FnScope ["_law_script", "_law_great", "_law_cell", "_law_bag", "_law_chars", "_law_text", "_law_amounts", "_law_title", "_law_made", "_law_others", "_law_k", "_law_at"] ["_law_script"] (defScope s_law) := ⟨rfl, rfl, rfl, by decide +kernel, rfl, by decide +kernel, by decide +kernel⟩
/-- the built-ins that the text calls by their names -/
structure Bl (mg : Str → Option Value) : Prop where
  b_isinstance : mg "isinstance" = none
  b_int : mg "int" = none
  b_bool : mg "bool" = none
  b_str : mg "str" = none
  b_tuple : mg "tuple" = none
  b_list : mg "list" = none
  b_len : mg "len" = none
  b_all : mg "all" = none
  b_range : mg "range" = none
  b_sum : mg "sum" = none
  b_max : mg "max" = none
  b_min : mg "min" = none
end My

set_option Elab.async false
set_option linter.all false
set_option maxRecDepth 100000
set_option maxHeartbeats 0
/-! the head: what is looked at behind the top, the run (printed by head.py) -/
namespace My
open PySem PySem.Spec PyProof.Rows L2
noncomputable section
def hdc0 (K : PySem.W.Frag) : List Bool := [
  He.eqO (PySem.W.nsIn K mainGlobals "AngleError") (some (some (.ref (He.ga K "AngleError")))),
  PySem.W.excIn K (He.ga K "AngleError") [.type "ValueError", .type "Exception", .type "BaseException", .type "object"] "ValueError.__new__",
  PySem.W.keepIn K (.ref (He.ga K "AngleError")),
  decide (PySem.W.subIn K (.ref (He.ga K "AngleError")) (.type "BaseException") = some true),
  decide (PySem.W.typeIn K (.ref (He.ga K "AngleError")) = some (.type "type")),
  He.eqO (PySem.W.findIn K (.ref (He.ga K "AngleError")) "__getattribute__") (some (some (.builtin "BaseException.__getattribute__"))),
  He.eqO (PySem.W.findIn K (.ref (He.ga K "AngleError")) "__getattr__") (some none),
  PySem.W.hasDictIn K (He.ga K "AngleError"),
  He.eqO (PySem.W.findIn K (.ref (He.ga K "AngleError")) "__class__") (some (some (.builtin "object.__class__"))),
  He.eqO (PySem.W.specialIn K (.builtin "object.__class__") "__get__") (some (some (.builtin "getset_descriptor.__get__"))),
  decide (PySem.W.takesIn K (.builtin "object.__class__") = some true),
  decide (PySem.W.mroIn K (He.ga K "AngleError") (.type "object") = some true),
  (PySem.W.clsIn K (He.ga K "AngleError")).isSome,
  He.eqO (PySem.W.nsIn K mainGlobals "InvalidPoly") (some (some (.ref (He.ga K "InvalidPoly")))),
  PySem.W.excIn K (He.ga K "InvalidPoly") [.type "ValueError", .type "Exception", .type "BaseException", .type "object"] "ValueError.__new__",
  PySem.W.keepIn K (.ref (He.ga K "InvalidPoly")),
  decide (PySem.W.subIn K (.ref (He.ga K "InvalidPoly")) (.type "BaseException") = some true),
  decide (PySem.W.typeIn K (.ref (He.ga K "InvalidPoly")) = some (.type "type")),
  He.eqO (PySem.W.findIn K (.ref (He.ga K "InvalidPoly")) "__getattribute__") (some (some (.builtin "BaseException.__getattribute__"))),
  He.eqO (PySem.W.findIn K (.ref (He.ga K "InvalidPoly")) "__getattr__") (some none),
  PySem.W.hasDictIn K (He.ga K "InvalidPoly"),
  He.eqO (PySem.W.findIn K (.ref (He.ga K "InvalidPoly")) "__class__") (some (some (.builtin "object.__class__"))),
  He.eqO (PySem.W.specialIn K (.builtin "object.__class__") "__get__") (some (some (.builtin "getset_descriptor.__get__"))),
  decide (PySem.W.takesIn K (.builtin "object.__class__") = some true),
  decide (PySem.W.mroIn K (He.ga K "InvalidPoly") (.type "object") = some true),
  (PySem.W.clsIn K (He.ga K "InvalidPoly")).isSome,
  He.eqO (PySem.W.nsIn K mainGlobals "InvalidDivisor") (some (some (.ref (He.ga K "InvalidDivisor")))),
  PySem.W.excIn K (He.ga K "InvalidDivisor") [.type "ValueError", .type "Exception", .type "BaseException", .type "object"] "ValueError.__new__",
  PySem.W.keepIn K (.ref (He.ga K "InvalidDivisor")),
  decide (PySem.W.subIn K (.ref (He.ga K "InvalidDivisor")) (.type "BaseException") = some true)]
def hdc1 (K : PySem.W.Frag) : List Bool := [
  decide (PySem.W.typeIn K (.ref (He.ga K "InvalidDivisor")) = some (.type "type")),
  He.eqO (PySem.W.findIn K (.ref (He.ga K "InvalidDivisor")) "__getattribute__") (some (some (.builtin "BaseException.__getattribute__"))),
  He.eqO (PySem.W.findIn K (.ref (He.ga K "InvalidDivisor")) "__getattr__") (some none),
  PySem.W.hasDictIn K (He.ga K "InvalidDivisor"),
  He.eqO (PySem.W.findIn K (.ref (He.ga K "InvalidDivisor")) "__class__") (some (some (.builtin "object.__class__"))),
  He.eqO (PySem.W.specialIn K (.builtin "object.__class__") "__get__") (some (some (.builtin "getset_descriptor.__get__"))),
  decide (PySem.W.takesIn K (.builtin "object.__class__") = some true),
  decide (PySem.W.mroIn K (He.ga K "InvalidDivisor") (.type "object") = some true),
  (PySem.W.clsIn K (He.ga K "InvalidDivisor")).isSome,
  He.eqO (PySem.W.nsIn K mainGlobals "InvalidNumber") (some (some (.ref (He.ga K "InvalidNumber")))),
  PySem.W.excIn K (He.ga K "InvalidNumber") [.type "ValueError", .type "Exception", .type "BaseException", .type "object"] "ValueError.__new__",
  PySem.W.keepIn K (.ref (He.ga K "InvalidNumber")),
  decide (PySem.W.subIn K (.ref (He.ga K "InvalidNumber")) (.type "BaseException") = some true),
  decide (PySem.W.typeIn K (.ref (He.ga K "InvalidNumber")) = some (.type "type")),
  He.eqO (PySem.W.findIn K (.ref (He.ga K "InvalidNumber")) "__getattribute__") (some (some (.builtin "BaseException.__getattribute__"))),
  He.eqO (PySem.W.findIn K (.ref (He.ga K "InvalidNumber")) "__getattr__") (some none),
  PySem.W.hasDictIn K (He.ga K "InvalidNumber"),
  He.eqO (PySem.W.findIn K (.ref (He.ga K "InvalidNumber")) "__class__") (some (some (.builtin "object.__class__"))),
  He.eqO (PySem.W.specialIn K (.builtin "object.__class__") "__get__") (some (some (.builtin "getset_descriptor.__get__"))),
  decide (PySem.W.takesIn K (.builtin "object.__class__") = some true),
  decide (PySem.W.mroIn K (He.ga K "InvalidNumber") (.type "object") = some true),
  (PySem.W.clsIn K (He.ga K "InvalidNumber")).isSome,
  He.eqO (PySem.W.nsIn K mainGlobals "InvalidOrder") (some (some (.ref (He.ga K "InvalidOrder")))),
  PySem.W.excIn K (He.ga K "InvalidOrder") [.type "ValueError", .type "Exception", .type "BaseException", .type "object"] "ValueError.__new__",
  PySem.W.keepIn K (.ref (He.ga K "InvalidOrder")),
  decide (PySem.W.subIn K (.ref (He.ga K "InvalidOrder")) (.type "BaseException") = some true),
  decide (PySem.W.typeIn K (.ref (He.ga K "InvalidOrder")) = some (.type "type")),
  He.eqO (PySem.W.findIn K (.ref (He.ga K "InvalidOrder")) "__getattribute__") (some (some (.builtin "BaseException.__getattribute__"))),
  He.eqO (PySem.W.findIn K (.ref (He.ga K "InvalidOrder")) "__getattr__") (some none),
  PySem.W.hasDictIn K (He.ga K "InvalidOrder")]
def hdc2 (K : PySem.W.Frag) : List Bool := [
  He.eqO (PySem.W.findIn K (.ref (He.ga K "InvalidOrder")) "__class__") (some (some (.builtin "object.__class__"))),
  He.eqO (PySem.W.specialIn K (.builtin "object.__class__") "__get__") (some (some (.builtin "getset_descriptor.__get__"))),
  decide (PySem.W.takesIn K (.builtin "object.__class__") = some true),
  decide (PySem.W.mroIn K (He.ga K "InvalidOrder") (.type "object") = some true),
  (PySem.W.clsIn K (He.ga K "InvalidOrder")).isSome,
  He.eqO (PySem.W.nsIn K mainGlobals "InvalidOrders") (some (some (.ref (He.ga K "InvalidOrders")))),
  PySem.W.excIn K (He.ga K "InvalidOrders") [.type "ValueError", .type "Exception", .type "BaseException", .type "object"] "ValueError.__new__",
  PySem.W.keepIn K (.ref (He.ga K "InvalidOrders")),
  decide (PySem.W.subIn K (.ref (He.ga K "InvalidOrders")) (.type "BaseException") = some true),
  decide (PySem.W.typeIn K (.ref (He.ga K "InvalidOrders")) = some (.type "type")),
  He.eqO (PySem.W.findIn K (.ref (He.ga K "InvalidOrders")) "__getattribute__") (some (some (.builtin "BaseException.__getattribute__"))),
  He.eqO (PySem.W.findIn K (.ref (He.ga K "InvalidOrders")) "__getattr__") (some none),
  PySem.W.hasDictIn K (He.ga K "InvalidOrders"),
  He.eqO (PySem.W.findIn K (.ref (He.ga K "InvalidOrders")) "__class__") (some (some (.builtin "object.__class__"))),
  He.eqO (PySem.W.specialIn K (.builtin "object.__class__") "__get__") (some (some (.builtin "getset_descriptor.__get__"))),
  decide (PySem.W.takesIn K (.builtin "object.__class__") = some true),
  decide (PySem.W.mroIn K (He.ga K "InvalidOrders") (.type "object") = some true),
  (PySem.W.clsIn K (He.ga K "InvalidOrders")).isSome,
  He.eqO (PySem.W.nsIn K mainGlobals "InvalidName") (some (some (.ref (He.ga K "InvalidName")))),
  PySem.W.excIn K (He.ga K "InvalidName") [.type "ValueError", .type "Exception", .type "BaseException", .type "object"] "ValueError.__new__",
  PySem.W.keepIn K (.ref (He.ga K "InvalidName")),
  decide (PySem.W.subIn K (.ref (He.ga K "InvalidName")) (.type "BaseException") = some true),
  decide (PySem.W.typeIn K (.ref (He.ga K "InvalidName")) = some (.type "type")),
  He.eqO (PySem.W.findIn K (.ref (He.ga K "InvalidName")) "__getattribute__") (some (some (.builtin "BaseException.__getattribute__"))),
  He.eqO (PySem.W.findIn K (.ref (He.ga K "InvalidName")) "__getattr__") (some none),
  PySem.W.hasDictIn K (He.ga K "InvalidName"),
  He.eqO (PySem.W.findIn K (.ref (He.ga K "InvalidName")) "__class__") (some (some (.builtin "object.__class__"))),
  He.eqO (PySem.W.specialIn K (.builtin "object.__class__") "__get__") (some (some (.builtin "getset_descriptor.__get__"))),
  decide (PySem.W.takesIn K (.builtin "object.__class__") = some true),
  decide (PySem.W.mroIn K (He.ga K "InvalidName") (.type "object") = some true)]
def hdc3 (K : PySem.W.Frag) : List Bool := [
  (PySem.W.clsIn K (He.ga K "InvalidName")).isSome,
  He.eqO (PySem.W.nsIn K mainGlobals "InvalidProgram") (some (some (.ref (He.ga K "InvalidProgram")))),
  PySem.W.excIn K (He.ga K "InvalidProgram") [.type "ValueError", .type "Exception", .type "BaseException", .type "object"] "ValueError.__new__",
  PySem.W.keepIn K (.ref (He.ga K "InvalidProgram")),
  decide (PySem.W.subIn K (.ref (He.ga K "InvalidProgram")) (.type "BaseException") = some true),
  decide (PySem.W.typeIn K (.ref (He.ga K "InvalidProgram")) = some (.type "type")),
  He.eqO (PySem.W.findIn K (.ref (He.ga K "InvalidProgram")) "__getattribute__") (some (some (.builtin "BaseException.__getattribute__"))),
  He.eqO (PySem.W.findIn K (.ref (He.ga K "InvalidProgram")) "__getattr__") (some none),
  PySem.W.hasDictIn K (He.ga K "InvalidProgram"),
  He.eqO (PySem.W.findIn K (.ref (He.ga K "InvalidProgram")) "__class__") (some (some (.builtin "object.__class__"))),
  He.eqO (PySem.W.specialIn K (.builtin "object.__class__") "__get__") (some (some (.builtin "getset_descriptor.__get__"))),
  decide (PySem.W.takesIn K (.builtin "object.__class__") = some true),
  decide (PySem.W.mroIn K (He.ga K "InvalidProgram") (.type "object") = some true),
  (PySem.W.clsIn K (He.ga K "InvalidProgram")).isSome,
  He.eqO (PySem.W.nsIn K mainGlobals "InvalidCount") (some (some (.ref (He.ga K "InvalidCount")))),
  PySem.W.excIn K (He.ga K "InvalidCount") [.type "ValueError", .type "Exception", .type "BaseException", .type "object"] "ValueError.__new__",
  PySem.W.keepIn K (.ref (He.ga K "InvalidCount")),
  decide (PySem.W.subIn K (.ref (He.ga K "InvalidCount")) (.type "BaseException") = some true),
  decide (PySem.W.typeIn K (.ref (He.ga K "InvalidCount")) = some (.type "type")),
  He.eqO (PySem.W.findIn K (.ref (He.ga K "InvalidCount")) "__getattribute__") (some (some (.builtin "BaseException.__getattribute__"))),
  He.eqO (PySem.W.findIn K (.ref (He.ga K "InvalidCount")) "__getattr__") (some none),
  PySem.W.hasDictIn K (He.ga K "InvalidCount"),
  He.eqO (PySem.W.findIn K (.ref (He.ga K "InvalidCount")) "__class__") (some (some (.builtin "object.__class__"))),
  He.eqO (PySem.W.specialIn K (.builtin "object.__class__") "__get__") (some (some (.builtin "getset_descriptor.__get__"))),
  decide (PySem.W.takesIn K (.builtin "object.__class__") = some true),
  decide (PySem.W.mroIn K (He.ga K "InvalidCount") (.type "object") = some true),
  (PySem.W.clsIn K (He.ga K "InvalidCount")).isSome,
  He.eqO (PySem.W.nsIn K mainGlobals "InvalidIndex") (some (some (.ref (He.ga K "InvalidIndex")))),
  PySem.W.excIn K (He.ga K "InvalidIndex") [.type "ValueError", .type "Exception", .type "BaseException", .type "object"] "ValueError.__new__",
  PySem.W.keepIn K (.ref (He.ga K "InvalidIndex"))]
def hdc4 (K : PySem.W.Frag) : List Bool := [
  decide (PySem.W.subIn K (.ref (He.ga K "InvalidIndex")) (.type "BaseException") = some true),
  decide (PySem.W.typeIn K (.ref (He.ga K "InvalidIndex")) = some (.type "type")),
  He.eqO (PySem.W.findIn K (.ref (He.ga K "InvalidIndex")) "__getattribute__") (some (some (.builtin "BaseException.__getattribute__"))),
  He.eqO (PySem.W.findIn K (.ref (He.ga K "InvalidIndex")) "__getattr__") (some none),
  PySem.W.hasDictIn K (He.ga K "InvalidIndex"),
  He.eqO (PySem.W.findIn K (.ref (He.ga K "InvalidIndex")) "__class__") (some (some (.builtin "object.__class__"))),
  He.eqO (PySem.W.specialIn K (.builtin "object.__class__") "__get__") (some (some (.builtin "getset_descriptor.__get__"))),
  decide (PySem.W.takesIn K (.builtin "object.__class__") = some true),
  decide (PySem.W.mroIn K (He.ga K "InvalidIndex") (.type "object") = some true),
  (PySem.W.clsIn K (He.ga K "InvalidIndex")).isSome,
  He.eqO (PySem.W.nsIn K mainGlobals "InvalidClaim") (some (some (.ref (He.ga K "InvalidClaim")))),
  PySem.W.excIn K (He.ga K "InvalidClaim") [.type "ValueError", .type "Exception", .type "BaseException", .type "object"] "ValueError.__new__",
  PySem.W.keepIn K (.ref (He.ga K "InvalidClaim")),
  decide (PySem.W.subIn K (.ref (He.ga K "InvalidClaim")) (.type "BaseException") = some true),
  decide (PySem.W.typeIn K (.ref (He.ga K "InvalidClaim")) = some (.type "type")),
  He.eqO (PySem.W.findIn K (.ref (He.ga K "InvalidClaim")) "__getattribute__") (some (some (.builtin "BaseException.__getattribute__"))),
  He.eqO (PySem.W.findIn K (.ref (He.ga K "InvalidClaim")) "__getattr__") (some none),
  PySem.W.hasDictIn K (He.ga K "InvalidClaim"),
  He.eqO (PySem.W.findIn K (.ref (He.ga K "InvalidClaim")) "__class__") (some (some (.builtin "object.__class__"))),
  He.eqO (PySem.W.specialIn K (.builtin "object.__class__") "__get__") (some (some (.builtin "getset_descriptor.__get__"))),
  decide (PySem.W.takesIn K (.builtin "object.__class__") = some true),
  decide (PySem.W.mroIn K (He.ga K "InvalidClaim") (.type "object") = some true),
  (PySem.W.clsIn K (He.ga K "InvalidClaim")).isSome,
  He.eqO (PySem.W.nsIn K mainGlobals "NotAChain") (some (some (.ref (He.ga K "NotAChain")))),
  PySem.W.excIn K (He.ga K "NotAChain") [.type "ValueError", .type "Exception", .type "BaseException", .type "object"] "ValueError.__new__",
  PySem.W.keepIn K (.ref (He.ga K "NotAChain")),
  decide (PySem.W.subIn K (.ref (He.ga K "NotAChain")) (.type "BaseException") = some true),
  decide (PySem.W.typeIn K (.ref (He.ga K "NotAChain")) = some (.type "type")),
  He.eqO (PySem.W.findIn K (.ref (He.ga K "NotAChain")) "__getattribute__") (some (some (.builtin "BaseException.__getattribute__"))),
  He.eqO (PySem.W.findIn K (.ref (He.ga K "NotAChain")) "__getattr__") (some none)]
def hdc5 (K : PySem.W.Frag) : List Bool := [
  PySem.W.hasDictIn K (He.ga K "NotAChain"),
  He.eqO (PySem.W.findIn K (.ref (He.ga K "NotAChain")) "__class__") (some (some (.builtin "object.__class__"))),
  He.eqO (PySem.W.specialIn K (.builtin "object.__class__") "__get__") (some (some (.builtin "getset_descriptor.__get__"))),
  decide (PySem.W.takesIn K (.builtin "object.__class__") = some true),
  decide (PySem.W.mroIn K (He.ga K "NotAChain") (.type "object") = some true),
  (PySem.W.clsIn K (He.ga K "NotAChain")).isSome,
  He.eqO (PySem.W.nsIn K mainGlobals "NoGreatest") (some (some (.ref (He.ga K "NoGreatest")))),
  PySem.W.excIn K (He.ga K "NoGreatest") [.type "ValueError", .type "Exception", .type "BaseException", .type "object"] "ValueError.__new__",
  PySem.W.keepIn K (.ref (He.ga K "NoGreatest")),
  decide (PySem.W.subIn K (.ref (He.ga K "NoGreatest")) (.type "BaseException") = some true),
  decide (PySem.W.typeIn K (.ref (He.ga K "NoGreatest")) = some (.type "type")),
  He.eqO (PySem.W.findIn K (.ref (He.ga K "NoGreatest")) "__getattribute__") (some (some (.builtin "BaseException.__getattribute__"))),
  He.eqO (PySem.W.findIn K (.ref (He.ga K "NoGreatest")) "__getattr__") (some none),
  PySem.W.hasDictIn K (He.ga K "NoGreatest"),
  He.eqO (PySem.W.findIn K (.ref (He.ga K "NoGreatest")) "__class__") (some (some (.builtin "object.__class__"))),
  He.eqO (PySem.W.specialIn K (.builtin "object.__class__") "__get__") (some (some (.builtin "getset_descriptor.__get__"))),
  decide (PySem.W.takesIn K (.builtin "object.__class__") = some true),
  decide (PySem.W.mroIn K (He.ga K "NoGreatest") (.type "object") = some true),
  (PySem.W.clsIn K (He.ga K "NoGreatest")).isSome,
  He.eqO (PySem.W.nsIn K mainGlobals "NoProgram") (some (some (.ref (He.ga K "NoProgram")))),
  PySem.W.excIn K (He.ga K "NoProgram") [.type "ValueError", .type "Exception", .type "BaseException", .type "object"] "ValueError.__new__",
  PySem.W.keepIn K (.ref (He.ga K "NoProgram")),
  decide (PySem.W.subIn K (.ref (He.ga K "NoProgram")) (.type "BaseException") = some true),
  decide (PySem.W.typeIn K (.ref (He.ga K "NoProgram")) = some (.type "type")),
  He.eqO (PySem.W.findIn K (.ref (He.ga K "NoProgram")) "__getattribute__") (some (some (.builtin "BaseException.__getattribute__"))),
  He.eqO (PySem.W.findIn K (.ref (He.ga K "NoProgram")) "__getattr__") (some none),
  PySem.W.hasDictIn K (He.ga K "NoProgram"),
  He.eqO (PySem.W.findIn K (.ref (He.ga K "NoProgram")) "__class__") (some (some (.builtin "object.__class__"))),
  He.eqO (PySem.W.specialIn K (.builtin "object.__class__") "__get__") (some (some (.builtin "getset_descriptor.__get__"))),
  decide (PySem.W.takesIn K (.builtin "object.__class__") = some true)]
def hdc6 (K : PySem.W.Frag) : List Bool := [
  decide (PySem.W.mroIn K (He.ga K "NoProgram") (.type "object") = some true),
  (PySem.W.clsIn K (He.ga K "NoProgram")).isSome,
  He.eqO (PySem.W.nsIn K mainGlobals "NoneLeft") (some (some (.ref (He.ga K "NoneLeft")))),
  PySem.W.excIn K (He.ga K "NoneLeft") [.type "ValueError", .type "Exception", .type "BaseException", .type "object"] "ValueError.__new__",
  PySem.W.keepIn K (.ref (He.ga K "NoneLeft")),
  decide (PySem.W.subIn K (.ref (He.ga K "NoneLeft")) (.type "BaseException") = some true),
  decide (PySem.W.typeIn K (.ref (He.ga K "NoneLeft")) = some (.type "type")),
  He.eqO (PySem.W.findIn K (.ref (He.ga K "NoneLeft")) "__getattribute__") (some (some (.builtin "BaseException.__getattribute__"))),
  He.eqO (PySem.W.findIn K (.ref (He.ga K "NoneLeft")) "__getattr__") (some none),
  PySem.W.hasDictIn K (He.ga K "NoneLeft"),
  He.eqO (PySem.W.findIn K (.ref (He.ga K "NoneLeft")) "__class__") (some (some (.builtin "object.__class__"))),
  He.eqO (PySem.W.specialIn K (.builtin "object.__class__") "__get__") (some (some (.builtin "getset_descriptor.__get__"))),
  decide (PySem.W.takesIn K (.builtin "object.__class__") = some true),
  decide (PySem.W.mroIn K (He.ga K "NoneLeft") (.type "object") = some true),
  (PySem.W.clsIn K (He.ga K "NoneLeft")).isSome,
  He.eqO (PySem.W.nsIn K mainGlobals "Refused") (some (some (.ref (He.ga K "Refused")))),
  PySem.W.excIn K (He.ga K "Refused") [.type "ValueError", .type "Exception", .type "BaseException", .type "object"] "ValueError.__new__",
  PySem.W.keepIn K (.ref (He.ga K "Refused")),
  decide (PySem.W.subIn K (.ref (He.ga K "Refused")) (.type "BaseException") = some true),
  decide (PySem.W.typeIn K (.ref (He.ga K "Refused")) = some (.type "type")),
  He.eqO (PySem.W.findIn K (.ref (He.ga K "Refused")) "__getattribute__") (some (some (.builtin "BaseException.__getattribute__"))),
  He.eqO (PySem.W.findIn K (.ref (He.ga K "Refused")) "__getattr__") (some none),
  PySem.W.hasDictIn K (He.ga K "Refused"),
  He.eqO (PySem.W.findIn K (.ref (He.ga K "Refused")) "__class__") (some (some (.builtin "object.__class__"))),
  He.eqO (PySem.W.specialIn K (.builtin "object.__class__") "__get__") (some (some (.builtin "getset_descriptor.__get__"))),
  decide (PySem.W.takesIn K (.builtin "object.__class__") = some true),
  decide (PySem.W.mroIn K (He.ga K "Refused") (.type "object") = some true),
  (PySem.W.clsIn K (He.ga K "Refused")).isSome,
  He.eqO (PySem.W.nsIn K mainGlobals "NothingToUndo") (some (some (.ref (He.ga K "NothingToUndo")))),
  PySem.W.excIn K (He.ga K "NothingToUndo") [.type "ValueError", .type "Exception", .type "BaseException", .type "object"] "ValueError.__new__"]
def hdc7 (K : PySem.W.Frag) : List Bool := [
  PySem.W.keepIn K (.ref (He.ga K "NothingToUndo")),
  decide (PySem.W.subIn K (.ref (He.ga K "NothingToUndo")) (.type "BaseException") = some true),
  decide (PySem.W.typeIn K (.ref (He.ga K "NothingToUndo")) = some (.type "type")),
  He.eqO (PySem.W.findIn K (.ref (He.ga K "NothingToUndo")) "__getattribute__") (some (some (.builtin "BaseException.__getattribute__"))),
  He.eqO (PySem.W.findIn K (.ref (He.ga K "NothingToUndo")) "__getattr__") (some none),
  PySem.W.hasDictIn K (He.ga K "NothingToUndo"),
  He.eqO (PySem.W.findIn K (.ref (He.ga K "NothingToUndo")) "__class__") (some (some (.builtin "object.__class__"))),
  He.eqO (PySem.W.specialIn K (.builtin "object.__class__") "__get__") (some (some (.builtin "getset_descriptor.__get__"))),
  decide (PySem.W.takesIn K (.builtin "object.__class__") = some true),
  decide (PySem.W.mroIn K (He.ga K "NothingToUndo") (.type "object") = some true),
  (PySem.W.clsIn K (He.ga K "NothingToUndo")).isSome,
  He.eqO (PySem.W.nsIn K mainGlobals "InvalidCommand") (some (some (.ref (He.ga K "InvalidCommand")))),
  PySem.W.excIn K (He.ga K "InvalidCommand") [.type "ValueError", .type "Exception", .type "BaseException", .type "object"] "ValueError.__new__",
  PySem.W.keepIn K (.ref (He.ga K "InvalidCommand")),
  decide (PySem.W.subIn K (.ref (He.ga K "InvalidCommand")) (.type "BaseException") = some true),
  decide (PySem.W.typeIn K (.ref (He.ga K "InvalidCommand")) = some (.type "type")),
  He.eqO (PySem.W.findIn K (.ref (He.ga K "InvalidCommand")) "__getattribute__") (some (some (.builtin "BaseException.__getattribute__"))),
  He.eqO (PySem.W.findIn K (.ref (He.ga K "InvalidCommand")) "__getattr__") (some none),
  PySem.W.hasDictIn K (He.ga K "InvalidCommand"),
  He.eqO (PySem.W.findIn K (.ref (He.ga K "InvalidCommand")) "__class__") (some (some (.builtin "object.__class__"))),
  He.eqO (PySem.W.specialIn K (.builtin "object.__class__") "__get__") (some (some (.builtin "getset_descriptor.__get__"))),
  decide (PySem.W.takesIn K (.builtin "object.__class__") = some true),
  decide (PySem.W.mroIn K (He.ga K "InvalidCommand") (.type "object") = some true),
  (PySem.W.clsIn K (He.ga K "InvalidCommand")).isSome,
  He.eqO (PySem.W.nsIn K mainGlobals "NotShort") (some (some (.ref (He.ga K "NotShort")))),
  oexIn K (He.ga K "NotShort"),
  He.eqO (PySem.W.findIn K (.ref (He.ga K "NotShort")) "__setattr__") (some (some (.builtin "object.__setattr__"))),
  PySem.W.keepIn K (.ref (He.ga K "NotShort")),
  decide (PySem.W.subIn K (.ref (He.ga K "NotShort")) (.type "BaseException") = some true),
  decide (PySem.W.typeIn K (.ref (He.ga K "NotShort")) = some (.type "type"))]
def hdc8 (K : PySem.W.Frag) : List Bool := [
  He.eqO (PySem.W.findIn K (.ref (He.ga K "NotShort")) "__getattribute__") (some (some (.builtin "BaseException.__getattribute__"))),
  He.eqO (PySem.W.findIn K (.ref (He.ga K "NotShort")) "__getattr__") (some none),
  PySem.W.hasDictIn K (He.ga K "NotShort"),
  He.eqO (PySem.W.findIn K (.ref (He.ga K "NotShort")) "__class__") (some (some (.builtin "object.__class__"))),
  He.eqO (PySem.W.specialIn K (.builtin "object.__class__") "__get__") (some (some (.builtin "getset_descriptor.__get__"))),
  decide (PySem.W.takesIn K (.builtin "object.__class__") = some true),
  decide (PySem.W.mroIn K (He.ga K "NotShort") (.type "object") = some true),
  (PySem.W.clsIn K (He.ga K "NotShort")).isSome,
  He.eqO (PySem.W.findIn K (.ref (He.ga K "NotShort")) "amount") (some none),
  He.eqO (PySem.W.nsIn K mainGlobals "TooGreat") (some (some (.ref (He.ga K "TooGreat")))),
  oexIn K (He.ga K "TooGreat"),
  He.eqO (PySem.W.findIn K (.ref (He.ga K "TooGreat")) "__setattr__") (some (some (.builtin "object.__setattr__"))),
  PySem.W.keepIn K (.ref (He.ga K "TooGreat")),
  decide (PySem.W.subIn K (.ref (He.ga K "TooGreat")) (.type "BaseException") = some true),
  decide (PySem.W.typeIn K (.ref (He.ga K "TooGreat")) = some (.type "type")),
  He.eqO (PySem.W.findIn K (.ref (He.ga K "TooGreat")) "__getattribute__") (some (some (.builtin "BaseException.__getattribute__"))),
  He.eqO (PySem.W.findIn K (.ref (He.ga K "TooGreat")) "__getattr__") (some none),
  PySem.W.hasDictIn K (He.ga K "TooGreat"),
  He.eqO (PySem.W.findIn K (.ref (He.ga K "TooGreat")) "__class__") (some (some (.builtin "object.__class__"))),
  He.eqO (PySem.W.specialIn K (.builtin "object.__class__") "__get__") (some (some (.builtin "getset_descriptor.__get__"))),
  decide (PySem.W.takesIn K (.builtin "object.__class__") = some true),
  decide (PySem.W.mroIn K (He.ga K "TooGreat") (.type "object") = some true),
  (PySem.W.clsIn K (He.ga K "TooGreat")).isSome,
  He.eqO (PySem.W.findIn K (.ref (He.ga K "TooGreat")) "number") (some none),
  He.eqO (PySem.W.nsIn K mainGlobals "InvalidWords") (some (some (.ref (He.ga K "InvalidWords")))),
  oexIn K (He.ga K "InvalidWords"),
  He.eqO (PySem.W.findIn K (.ref (He.ga K "InvalidWords")) "__setattr__") (some (some (.builtin "object.__setattr__"))),
  PySem.W.keepIn K (.ref (He.ga K "InvalidWords")),
  decide (PySem.W.subIn K (.ref (He.ga K "InvalidWords")) (.type "BaseException") = some true),
  decide (PySem.W.typeIn K (.ref (He.ga K "InvalidWords")) = some (.type "type"))]
def hdc9 (K : PySem.W.Frag) : List Bool := [
  He.eqO (PySem.W.findIn K (.ref (He.ga K "InvalidWords")) "__getattribute__") (some (some (.builtin "BaseException.__getattribute__"))),
  He.eqO (PySem.W.findIn K (.ref (He.ga K "InvalidWords")) "__getattr__") (some none),
  PySem.W.hasDictIn K (He.ga K "InvalidWords"),
  He.eqO (PySem.W.findIn K (.ref (He.ga K "InvalidWords")) "__class__") (some (some (.builtin "object.__class__"))),
  He.eqO (PySem.W.specialIn K (.builtin "object.__class__") "__get__") (some (some (.builtin "getset_descriptor.__get__"))),
  decide (PySem.W.takesIn K (.builtin "object.__class__") = some true),
  decide (PySem.W.mroIn K (He.ga K "InvalidWords") (.type "object") = some true),
  (PySem.W.clsIn K (He.ga K "InvalidWords")).isSome,
  He.eqO (PySem.W.findIn K (.ref (He.ga K "InvalidWords")) "spot") (some none),
  He.eqO (PySem.W.nsIn K mainGlobals "UnknownName") (some (some (.ref (He.ga K "UnknownName")))),
  oexIn K (He.ga K "UnknownName"),
  He.eqO (PySem.W.findIn K (.ref (He.ga K "UnknownName")) "__setattr__") (some (some (.builtin "object.__setattr__"))),
  PySem.W.keepIn K (.ref (He.ga K "UnknownName")),
  decide (PySem.W.subIn K (.ref (He.ga K "UnknownName")) (.type "BaseException") = some true),
  decide (PySem.W.typeIn K (.ref (He.ga K "UnknownName")) = some (.type "type")),
  He.eqO (PySem.W.findIn K (.ref (He.ga K "UnknownName")) "__getattribute__") (some (some (.builtin "BaseException.__getattribute__"))),
  He.eqO (PySem.W.findIn K (.ref (He.ga K "UnknownName")) "__getattr__") (some none),
  PySem.W.hasDictIn K (He.ga K "UnknownName"),
  He.eqO (PySem.W.findIn K (.ref (He.ga K "UnknownName")) "__class__") (some (some (.builtin "object.__class__"))),
  He.eqO (PySem.W.specialIn K (.builtin "object.__class__") "__get__") (some (some (.builtin "getset_descriptor.__get__"))),
  decide (PySem.W.takesIn K (.builtin "object.__class__") = some true),
  decide (PySem.W.mroIn K (He.ga K "UnknownName") (.type "object") = some true),
  (PySem.W.clsIn K (He.ga K "UnknownName")).isSome,
  He.eqO (PySem.W.findIn K (.ref (He.ga K "UnknownName")) "name") (some none),
  decide (PySem.W.subIn K (.ref (He.ga K "NotShort")) (.ref (He.ga K "AngleError")) = some true),
  decide (PySem.W.subIn K (.ref (He.ga K "TooGreat")) (.ref (He.ga K "AngleError")) = some true),
  decide (PySem.W.subIn K (.ref (He.ga K "InvalidWords")) (.ref (He.ga K "AngleError")) = some true),
  decide (PySem.W.subIn K (.ref (He.ga K "UnknownName")) (.ref (He.ga K "AngleError")) = some true),
  matB K [(He.ga K "InvalidPoly"), (He.ga K "InvalidDivisor"), (He.ga K "InvalidNumber"), (He.ga K "InvalidOrder"), (He.ga K "InvalidOrders"), (He.ga K "InvalidName"), (He.ga K "InvalidProgram"), (He.ga K "InvalidCount"), (He.ga K "InvalidIndex"), (He.ga K "InvalidClaim"), (He.ga K "NotAChain"), (He.ga K "NoGreatest"), (He.ga K "NoProgram"), (He.ga K "NoneLeft"), (He.ga K "Refused"), (He.ga K "NothingToUndo"), (He.ga K "InvalidCommand"), (He.ga K "NotShort"), (He.ga K "TooGreat"), (He.ga K "InvalidWords"), (He.ga K "UnknownName")],
  angB K (He.ga K "AngleError") [(He.ga K "InvalidPoly"), (He.ga K "InvalidDivisor"), (He.ga K "InvalidNumber"), (He.ga K "InvalidOrder"), (He.ga K "InvalidOrders"), (He.ga K "InvalidName"), (He.ga K "InvalidProgram"), (He.ga K "InvalidCount"), (He.ga K "InvalidIndex"), (He.ga K "InvalidClaim"), (He.ga K "NotAChain"), (He.ga K "NoGreatest"), (He.ga K "NoProgram"), (He.ga K "NoneLeft"), (He.ga K "Refused"), (He.ga K "NothingToUndo"), (He.ga K "InvalidCommand"), (He.ga K "NotShort"), (He.ga K "TooGreat"), (He.ga K "InvalidWords"), (He.ga K "UnknownName")]]
def hdc10 (K : PySem.W.Frag) : List Bool := [
  valB K [(He.ga K "InvalidPoly"), (He.ga K "InvalidDivisor"), (He.ga K "InvalidNumber"), (He.ga K "InvalidOrder"), (He.ga K "InvalidOrders"), (He.ga K "InvalidName"), (He.ga K "InvalidProgram"), (He.ga K "InvalidCount"), (He.ga K "InvalidIndex"), (He.ga K "InvalidClaim"), (He.ga K "NotAChain"), (He.ga K "NoGreatest"), (He.ga K "NoProgram"), (He.ga K "NoneLeft"), (He.ga K "Refused"), (He.ga K "NothingToUndo"), (He.ga K "InvalidCommand"), (He.ga K "NotShort"), (He.ga K "TooGreat"), (He.ga K "InvalidWords"), (He.ga K "UnknownName")],
  decide (PySem.W.subIn K (.ref (He.ga K "AngleError")) (.type "ValueError") = some true),
  He.eqO (PySem.W.findIn K (.ref (He.ga K "NotShort")) "__init__") (some (some (.ref (He.ma K (He.ga K "NotShort") "__init__")))),
  PySem.W.isFn K (.ref (He.ma K (He.ga K "NotShort") "__init__")),
  fnC K (He.ma K (He.ga K "NotShort") "__init__") "NotShort.__init__" .none,
  PySem.W.keepIn K (.ref (He.ma K (He.ga K "NotShort") "__init__")),
  He.eqO (PySem.W.findIn K (.ref (He.ga K "TooGreat")) "__init__") (some (some (.ref (He.ma K (He.ga K "TooGreat") "__init__")))),
  PySem.W.isFn K (.ref (He.ma K (He.ga K "TooGreat") "__init__")),
  fnC K (He.ma K (He.ga K "TooGreat") "__init__") "TooGreat.__init__" .none,
  PySem.W.keepIn K (.ref (He.ma K (He.ga K "TooGreat") "__init__")),
  He.eqO (PySem.W.findIn K (.ref (He.ga K "InvalidWords")) "__init__") (some (some (.ref (He.ma K (He.ga K "InvalidWords") "__init__")))),
  PySem.W.isFn K (.ref (He.ma K (He.ga K "InvalidWords") "__init__")),
  fnC K (He.ma K (He.ga K "InvalidWords") "__init__") "InvalidWords.__init__" .none,
  PySem.W.keepIn K (.ref (He.ma K (He.ga K "InvalidWords") "__init__")),
  He.eqO (PySem.W.findIn K (.ref (He.ga K "UnknownName")) "__init__") (some (some (.ref (He.ma K (He.ga K "UnknownName") "__init__")))),
  PySem.W.isFn K (.ref (He.ma K (He.ga K "UnknownName") "__init__")),
  fnC K (He.ma K (He.ga K "UnknownName") "__init__") "UnknownName.__init__" .none,
  PySem.W.keepIn K (.ref (He.ma K (He.ga K "UnknownName") "__init__")),
  He.eqO (PySem.W.nsIn K mainGlobals "_law_bag_of") (some (some (.ref (He.ga K "_law_bag_of")))),
  fnC K (He.ga K "_law_bag_of") "_law_bag_of" .none,
  PySem.W.keepIn K (.ref (He.ga K "_law_bag_of")),
  He.eqO (PySem.W.nsIn K mainGlobals "_law_pick") (some (some (.ref (He.ga K "_law_pick")))),
  fnC K (He.ga K "_law_pick") "_law_pick" .none,
  PySem.W.keepIn K (.ref (He.ga K "_law_pick")),
  He.eqO (PySem.W.nsIn K mainGlobals "_law_great_int") (some (some (.ref (He.ga K "_law_great_int")))),
  fnC K (He.ga K "_law_great_int") "_law_great_int" .none,
  PySem.W.keepIn K (.ref (He.ga K "_law_great_int")),
  He.eqO (PySem.W.nsIn K mainGlobals "_law_some_int") (some (some (.ref (He.ga K "_law_some_int")))),
  fnC K (He.ga K "_law_some_int") "_law_some_int" .none,
  PySem.W.keepIn K (.ref (He.ga K "_law_some_int"))]
def hdc11 (K : PySem.W.Frag) : List Bool := [
  He.eqO (PySem.W.nsIn K mainGlobals "_law_some_title") (some (some (.ref (He.ga K "_law_some_title")))),
  fnC K (He.ga K "_law_some_title") "_law_some_title" .none,
  PySem.W.keepIn K (.ref (He.ga K "_law_some_title")),
  He.eqO (PySem.W.nsIn K mainGlobals "_law_truths") (some (some (.ref (He.ga K "_law_truths")))),
  fnC K (He.ga K "_law_truths") "_law_truths" .none,
  PySem.W.keepIn K (.ref (He.ga K "_law_truths")),
  He.eqO (PySem.W.nsIn K mainGlobals "_law_objects") (some (some (.ref (He.ga K "_law_objects")))),
  fnC K (He.ga K "_law_objects") "_law_objects" .none,
  PySem.W.keepIn K (.ref (He.ga K "_law_objects")),
  He.eqO (PySem.W.nsIn K mainGlobals "_law_is_int") (some (some (.ref (He.ga K "_law_is_int")))),
  fnC K (He.ga K "_law_is_int") "_law_is_int" .none,
  PySem.W.keepIn K (.ref (He.ga K "_law_is_int")),
  He.eqO (PySem.W.nsIn K mainGlobals "_law_fields") (some (some (.ref (He.ga K "_law_fields")))),
  fnC K (He.ga K "_law_fields") "_law_fields" .none,
  PySem.W.keepIn K (.ref (He.ga K "_law_fields")),
  He.eqO (PySem.W.nsIn K mainGlobals "_law_raised") (some (some (.ref (He.ga K "_law_raised")))),
  fnC K (He.ga K "_law_raised") "_law_raised" .none,
  PySem.W.keepIn K (.ref (He.ga K "_law_raised")),
  He.eqO (PySem.W.nsIn K mainGlobals "law") (some (some (.ref (He.ga K "law")))),
  fnC K (He.ga K "law") "law" .none,
  PySem.W.keepIn K (.ref (He.ga K "law")),
  He.eqO (PySem.W.nsIn K mainGlobals "ValueError") (some none),
  He.eqO (PySem.W.nsIn K mainGlobals "all") (some none),
  He.eqO (PySem.W.nsIn K mainGlobals "any") (some none),
  He.eqO (PySem.W.nsIn K mainGlobals "bool") (some none),
  He.eqO (PySem.W.nsIn K mainGlobals "int") (some none),
  He.eqO (PySem.W.nsIn K mainGlobals "isinstance") (some none),
  He.eqO (PySem.W.nsIn K mainGlobals "len") (some none),
  He.eqO (PySem.W.nsIn K mainGlobals "list") (some none),
  He.eqO (PySem.W.nsIn K mainGlobals "max") (some none)]
def hdc12 (K : PySem.W.Frag) : List Bool := [
  He.eqO (PySem.W.nsIn K mainGlobals "min") (some none),
  He.eqO (PySem.W.nsIn K mainGlobals "range") (some none),
  He.eqO (PySem.W.nsIn K mainGlobals "str") (some none),
  He.eqO (PySem.W.nsIn K mainGlobals "sum") (some none),
  He.eqO (PySem.W.nsIn K mainGlobals "tuple") (some none)]
def hdf0 (K : PySem.W.Frag) : List He.FnW := [fnE K (He.ma K (He.ga K "NotShort") "__init__"), fnE K (He.ma K (He.ga K "TooGreat") "__init__"), fnE K (He.ma K (He.ga K "InvalidWords") "__init__"), fnE K (He.ma K (He.ga K "UnknownName") "__init__"), fnE K (He.ga K "_law_bag_of"), fnE K (He.ga K "_law_pick"), fnE K (He.ga K "_law_great_int"), fnE K (He.ga K "_law_some_int"), fnE K (He.ga K "_law_some_title"), fnE K (He.ga K "_law_truths"), fnE K (He.ga K "_law_objects"), fnE K (He.ga K "_law_is_int"), fnE K (He.ga K "_law_fields"), fnE K (He.ga K "_law_raised"), fnE K (He.ga K "law")]
def hdv0 : List He.FnW := [
  some ("__init__", "NotShort.__init__", (defArgs s_NotShort___init__), .stmts (defBody s_NotShort___init__), (defScope s_NotShort___init__), mainGlobals, [], builtinsNs),
  some ("__init__", "TooGreat.__init__", (defArgs s_TooGreat___init__), .stmts (defBody s_TooGreat___init__), (defScope s_TooGreat___init__), mainGlobals, [], builtinsNs),
  some ("__init__", "InvalidWords.__init__", (defArgs s_InvalidWords___init__), .stmts (defBody s_InvalidWords___init__), (defScope s_InvalidWords___init__), mainGlobals, [], builtinsNs),
  some ("__init__", "UnknownName.__init__", (defArgs s_UnknownName___init__), .stmts (defBody s_UnknownName___init__), (defScope s_UnknownName___init__), mainGlobals, [], builtinsNs),
  some ("_law_bag_of", "_law_bag_of", (defArgs s_l_bag_of), .stmts (defBody s_l_bag_of), (defScope s_l_bag_of), mainGlobals, [], builtinsNs),
  some ("_law_pick", "_law_pick", (defArgs s_l_pick), .stmts (defBody s_l_pick), (defScope s_l_pick), mainGlobals, [], builtinsNs),
  some ("_law_great_int", "_law_great_int", (defArgs s_l_great_int), .stmts (defBody s_l_great_int), (defScope s_l_great_int), mainGlobals, [], builtinsNs),
  some ("_law_some_int", "_law_some_int", (defArgs s_l_some_int), .stmts (defBody s_l_some_int), (defScope s_l_some_int), mainGlobals, [], builtinsNs),
  some ("_law_some_title", "_law_some_title", (defArgs s_l_some_title), .stmts (defBody s_l_some_title), (defScope s_l_some_title), mainGlobals, [], builtinsNs),
  some ("_law_truths", "_law_truths", (defArgs s_l_truths), .stmts (defBody s_l_truths), (defScope s_l_truths), mainGlobals, [], builtinsNs),
  some ("_law_objects", "_law_objects", (defArgs s_l_objects), .stmts (defBody s_l_objects), (defScope s_l_objects), mainGlobals, [], builtinsNs),
  some ("_law_is_int", "_law_is_int", (defArgs s_l_is_int), .stmts (defBody s_l_is_int), (defScope s_l_is_int), mainGlobals, [], builtinsNs),
  some ("_law_fields", "_law_fields", (defArgs s_l_fields), .stmts (defBody s_l_fields), (defScope s_l_fields), mainGlobals, [], builtinsNs),
  some ("_law_raised", "_law_raised", (defArgs s_l_raised), .stmts (defBody s_l_raised), (defScope s_l_raised), mainGlobals, [], builtinsNs),
  some ("law", "law", (defArgs s_law), .stmts (defBody s_law), (defScope s_law), mainGlobals, [], builtinsNs)]
def hdt (K : PySem.W.Frag) : List (Option (List (Option (Str × Int)))) := []
def hdw (w : World) : List (Option (List (Option (Str × Int)))) := []
abbrev HdA : Type := List Bool × List (List He.FnW) × List (Option (List (Option (Str × Int))))
def hdObs (K : PySem.W.Frag) : HdA := ([(hdc0 K).all id, (hdc1 K).all id, (hdc2 K).all id, (hdc3 K).all id, (hdc4 K).all id, (hdc5 K).all id, (hdc6 K).all id, (hdc7 K).all id, (hdc8 K).all id, (hdc9 K).all id, (hdc10 K).all id, (hdc11 K).all id, (hdc12 K).all id], [hdf0 K], hdt K)
def hdVal (w : World) : HdA := ([true, true, true, true, true, true, true, true, true, true, true, true, true], [hdv0], hdw w)
def hdG (g : Addr → Option Obj) : HdA := hdObs (He.frG g (hdLv g 5 [mainGlobals]))
def hdHook : PySem.W.Hook where
  α := HdA
  obs := fun s => hdG s.heap.get?
  val := hdVal
  says := fun w h => ∃ K : PySem.W.Frag, K.In h ∧ hdObs K = hdVal w
  of := fun _ _ e => ⟨_, He.frG_in, e⟩
  keeps := fun _ _ _ ⟨K, hK, c⟩ k => ⟨K, PySem.W.Frag.In.keeps hK k, c⟩
def hdOb (s : PySem.W.SharedT) : HdA := hdG (HandSHeadRun.getT s)
theorem hdOb_eq (s : PySem.W.SharedT) : hdOb s = hdHook.obs s.abs := by
  have e : HandSHeadRun.getT s = s.abs.heap.get? := funext (HandSHeadRun.getT_eq s)
  show hdG _ = hdG _
  rw [e]
abbrev hdR : PySem.W.OpenRow := PySem.W.OpenLaw.row PySem.Challenge.rw_everyangle_k00_error_classes
abbrev hdQ : Program := PySem.W.view hdR.prog [34]
def hdn0 : List Str := ["AngleError", "InvalidPoly", "InvalidDivisor", "InvalidNumber", "InvalidOrder", "InvalidOrders", "InvalidName", "InvalidProgram", "InvalidCount", "InvalidIndex", "InvalidClaim", "NotShort", "NotAChain", "NoGreatest", "TooGreat", "NoProgram", "NoneLeft", "Refused", "NothingToUndo", "InvalidWords", "InvalidCommand", "UnknownName", "_law_bag_of", "_law_pick", "_law_great_int", "_law_is_int", "_law_some_int", "_law_truths", "_law_objects", "_law_raised"]
def hdn1 : List Str := ["_law_fields", "_law_some_title"]
def hdL : List Str := hdn0 ++ hdn1
theorem hdRun_f (w : World) : HandSHeadRun.RunEq hdR hdQ hdHook hdOb 9000 hdL (w.withFollow "special-get-raises" false) := by
  intro os
  kernel_rfl
theorem hdRun_t (w : World) : HandSHeadRun.RunEq hdR hdQ hdHook hdOb 9000 hdL (w.withFollow "special-get-raises" true) := by
  intro os
  kernel_rfl
theorem hdRun (w : World) : HandSHeadRun.RunEq hdR hdQ hdHook hdOb 9000 hdL w := by_row hdRun_f hdRun_t w
end
end My
/-! the head itself, early in the text: what the law's def promises is asked for -/
open PySem PySem.Spec PyProof.Rows L2 in
theorem My.hd_law (FF : ∀ (w : World) (K : PySem.W.Frag) (h : Heap) (mg : Str → Option Value) (fa : Addr), K.In h → h.Ns mainGlobals mg → mg "law" = some (.ref fa) → My.hdObs K = My.hdVal w →
    ∃ fd : FuncData, (∀ (s : Shared) (v : Value), BindsTo s fd ⟨[v], []⟩ [("_law_script", v)]) ∧ ∀ base : Heap, K.In base → base.Ns mainGlobals mg → FnOk PySem.Challenge.rw_everyangle_k00_error_classes.prog w K mg base CX0 5 fa fd ["_law_script"] (My.spLaw K)) : PySem.Challenge.rw_everyangle_k00_error_classes.Holds := by
  w_on; o_law
  refine HandSHeadRun.head_any (r := PySem.W.OpenLaw.row PySem.Challenge.rw_everyangle_k00_error_classes) (q := My.hdQ) (H := My.hdHook) (ob := My.hdOb) (M := 9000) (loose := My.hdL) (d := HandSHeadRun.topDef (PySem.W.OpenLaw.row PySem.Challenge.rw_everyangle_k00_error_classes).prog 34) (kwd := []) My.hdOb_eq
    (by kernel_rfl) (fun s => by kernel_rfl) My.hdRun (by kernel_rfl) (by kernel_rfl) (by kernel_rfl) (by rfl) (by first | assumption | decide +kernel) (by decide +kernel) ⟨rfl, rfl, rfl, rfl, rfl, by decide +kernel⟩ ?hw ?hc
  case hw => w_witness2
  case hc =>
    refine L2.walk_ofE (l := PySem.Challenge.rw_everyangle_k00_error_classes) (n := 63) (k := 5) (x := "_law_script") (CX := L2.CX0) rfl (by decide) (by kernel_rfl) ⟨rfl, by decide, by decide⟩ ?F (fun _ _ _ _ z => z)
    intro w mg fa h Y G hmg0
    obtain ⟨K, KX, c⟩ := Y
    have hmg : mg ("law" : PySem.Str) = some (.ref fa) := by
      have e : (HandSHeadRun.topDef (PySem.W.OpenLaw.row PySem.Challenge.rw_everyangle_k00_error_classes).prog 34).name = ("law" : PySem.Str) := by kernel_rfl
      rw [← e]
      exact hmg0
    obtain ⟨fd, hb, hF⟩ := FF w K h mg fa KX G hmg c
    exact ⟨K, fd, My.spLaw K, KX, hb, fun H a ns hl _ hS => ⟨a, ns, rfl, hS, hl, fun _ => rfl⟩, hF⟩

set_option Elab.async false
set_option linter.all false
set_option maxRecDepth 100000
namespace My
open PySem PySem.Spec PyProof.Rows L2
/-! ### methods of own classes, by their names -/
structure HasM (P : Program) (w : World) (K : PySem.W.Frag) (mg : Str → Option Value) (base : Heap) (C : Addr) (m : Str) (k : Nat) (ps : List Str) (sp : Sp) : Prop where
  ex : ∃ f fd, FnOk P w K mg base CX0 k f fd ps sp ∧ Meth K C m f ∧ Binds K fd ps []
theorem HasM.mono {P : Program} {w : World} {K : PySem.W.Frag} {mg : Str → Option Value} {base : Heap} {C : Addr} {m : Str} {j k : Nat} {ps : List Str} {sp : Sp} (h : HasM P w K mg base C m j ps sp) (hk : j ≤ k) : HasM P w K mg base C m k ps sp := by
  obtain ⟨f, fd, F, a, b⟩ := h.ex
  exact ⟨f, fd, F.mono hk, a, b⟩
section
variable {X : Cx} {pins : List (Addr × Obj)} {σ : L2.St} {H : Hp} {s : Shared} {Q : VK} {C : Addr} {m : Str} {k : Nat} {ps : List Str} {sp : Sp} {f : Addr} {fd : FuncData}
/-! ### the types of all values, own errors too -/
structure ExcTy (K : PySem.W.Frag) (D : Addr) : Prop where
  ga : PySem.W.findIn K (.ref D) "__getattribute__" = some (some (.builtin "BaseException.__getattribute__"))
  gt : PySem.W.findIn K (.ref D) "__getattr__" = some none
  sub : PySem.W.subIn K (.ref D) (.type "BaseException") = some true
  dct : PySem.W.hasDictIn K D = true
  cl : PySem.W.findIn K (.ref D) "__class__" = some (some (.builtin "object.__class__"))
  cn : PySem.W.specialIn K (.builtin "object.__class__") "__get__" = some (some (.builtin "getset_descriptor.__get__"))
  ct : PySem.W.takesIn K (.builtin "object.__class__") = some true
  mr : PySem.W.mroIn K D (.type "object") = some true
/-- a caught exception, held as a value -/
def ExV (cls : Value) (d : Option Addr) (a : Addr) : HO := .ext fun h => ∃ (oe : Obj) (vs : Array Value), h.get? a = some oe ∧ Zc cls d oe ∧ oe.data = .fields vs
inductive TyE (K : PySem.W.Frag) (H : Hp) : V → Value → Prop where
  | x {y : V} {t : Value} (h : TyX K H y t) : TyE K H y t
  | exc {p D : Addr} (h : H p = some (ExO (.ref D) p)) (F : ExcTy K D) : TyE K H (.ref p) (.ref D)
  | exv {p D : Addr} (h : H p = some (ExV (.ref D) none p)) (F : ExcTy K D) : TyE K H (.ref p) (.ref D)
  | exd {p D dd : Addr} {fs : List (Str × V)} (h : H p = some (ExV (.ref D) (some dd) p)) (hd : H dd = some (.xd fs)) (F : ExcTy K D) : TyE K H (.ref p) (.ref D)
theorem kit_ofE {y : V} {u t : Value} (I : Inv X pins σ H s) (ry : RelV y u) (ty : TyE X.K H y t) : ∃ P : Heap → Prop, PySem.W.KitX X.K u t P ∧ P s.heap ∧ u ≠ .builtin "__main__.__loader__#opaque" := by
  cases ty with
  | x h => exact kit_of I ry h
  | @exc p D h F =>
    cases ry
    obtain ⟨⟨oe, vs, e, z, d, _⟩, _, _⟩ := I.hok p _ h
    obtain ⟨z1, z2⟩ := z
    have J : PySem.W.InstAt s.heap p oe D none := ⟨e, z1, by unfold PySem.W.notCls; rw [d], by rw [z2]; trivial⟩
    exact ⟨_, PySem.W.handS_kitx_exc F.ga F.gt F.sub F.dct F.cl F.cn F.ct F.mr, J, fun z => nomatch z⟩
  | @exv p D h F =>
    cases ry
    obtain ⟨⟨oe, vs, e, z, d⟩, _, _⟩ := I.hok p _ h
    obtain ⟨z1, z2⟩ := z
    have J : PySem.W.InstAt s.heap p oe D none := ⟨e, z1, by unfold PySem.W.notCls; rw [d], by rw [z2]; trivial⟩
    exact ⟨_, PySem.W.handS_kitx_exc F.ga F.gt F.sub F.dct F.cl F.cn F.ct F.mr, J, fun z => nomatch z⟩
  | @exd p D dd fs h hd F =>
    cases ry
    obtain ⟨⟨oe, vs, e, z, d⟩, _, _⟩ := I.hok p _ h
    obtain ⟨z1, z2⟩ := z
    have hx : ObjOk X.prog X.w H s.heap dd (.xd fs) := I.hok dd _ hd
    obtain ⟨mA, hns, _⟩ := hx
    obtain ⟨od, ho, _⟩ := lookIn_ns hns
    have J : PySem.W.InstAt s.heap p oe D (some od) := ⟨e, z1, by unfold PySem.W.notCls; rw [d], by rw [z2]; exact ho⟩
    exact ⟨_, PySem.W.kitx_exc (by obtain ⟨cd, e, _⟩ := PySem.W.any_some F.dct; rw [e]; rfl) F.ga F.gt F.sub F.cl F.cn F.ct F.mr, J, fun z => nomatch z⟩
/-- isinstance(x, c), one class -/
def rIsiE (K : PySem.W.Frag) : List V → Hp → VK → Prop := fun xs H Q => ∃ (x c : V) (t u : Value) (b : Bool), xs = [x, c] ∧ ClsV c u ∧ TyE K H x t ∧ PySem.W.kitOne K t u = some b ∧ Q (.bl b) H
theorem call_isiE : CallR X (.builtin "isinstance") (rIsiE X.K) := by
  intro pins s σ H xs us Q I r h
  obtain ⟨x, c, t, u, b, rfl, hc, ty, e, q⟩ := h
  obtain ⟨v, w, rfl, rv, rw'⟩ := vals2 r
  cases hc.eq rw'
  obtain ⟨P, k, hP, ne⟩ := kit_ofE I rv ty
  exact PySem.W.kia_one k I.kIn hP e ne fun tk => ⟨.bl b, H, I.tok _, rfl, q⟩
end
end My

set_option Elab.async false
set_option linter.all false
set_option maxRecDepth 100000
namespace My
open PySem PySem.Spec PyProof.Rows L2
/-! ### a def called with fewer values than it has parameters -/
section
variable {X : Cx} {k : Nat} {ps : List Str} {sp : Sp} {x : Str} {p pos : Pos} {e : Expr} {es : List Expr} {t : TA} {dvs : List V}
end
theorem PrAt.times {H : Hp} {p : Prog} {xs : List V} (h : PrAt H p xs) : ∀ n, PrAt H (Prog.times n p) (List.replicate n xs).flatten
  | 0 => rfl
  | n + 1 => by
    rw [List.replicate_succ, List.flatten_cons]
    exact h.app (h.times n)
section
variable {σ : L2.St} {H : Hp} {K : PySem.W.Frag} {D : Ends} {tb : TS} {g : TG} {a : Addr} {xs : List V} {p : Prog}
end
section
variable {P : Program} {w : World} {K : PySem.W.Frag} {mg : Str → Option Value} {base : Heap} {x qual : Str} {params : Arguments} {body : List Stmt} {scope : Scope} {dvs : List V} {kws : List (Str × V)} {f : Addr} {fd : FuncData}
end
/-! ### short programs -/
namespace Prog
/-- no heading on the way of a flat program leaves -12 .. 12 -/
def wayOk : Int → Prog → Bool
  | _, .nil => true
  | n, .step _ _ r => wayOk n r
  | n, .turn k r => if n + k > 12 ∨ n + k < -12 then false else wayOk (n + k) r
  | _, .rep _ _ _ => true
  | _, .mir _ _ => true
def short (p : Prog) : Bool := if p.size > 200 then false else wayOk 0 (unroll 1 p)
end Prog
end My

set_option Elab.async false
set_option linter.all false
set_option maxRecDepth 100000
namespace My
open PySem PySem.Spec PyProof.Rows L2
end My

set_option Elab.async false
set_option linter.all false
set_option maxRecDepth 100000
namespace My
open PySem PySem.Spec PyProof.Rows L2
section
variable {H : Hp} {Q : VK} {K : PySem.W.Frag}
end
namespace Prog
end Prog
end My

set_option Elab.async false
set_option linter.all false
set_option maxRecDepth 100000
set_option maxHeartbeats 2000000
namespace My
open PySem PySem.Spec PyProof.Rows L2
/-! ### a caught exception, held as a value -/
theorem exV_ok {P : Program} {w : World} {H : Hp} {h : Heap} {a : Addr} {cls : Value} {d : Option Addr} {oe : Obj} {vs : Array Value} (e : h.get? a = some oe) (z : Zc cls d oe) (q : oe.data = .fields vs) : ObjOk P w H h a (ExV cls d a) :=
  ⟨⟨oe, vs, e, z, q⟩, ⟨oe, e⟩, fun _ _ ⟨o, v, q, r⟩ k => ⟨o, v, k o q, r⟩⟩
theorem Un.hold {fs ex : List Addr} {H0 H : Hp} {h0 h : Heap} {a : Addr} {o : HO} (u : Un fs ex H0 H h0 h) (n0 : h0.get? a = none) (n : H a = none) : Un fs ex H0 (upd H a o) h0 h where
  keep := u.keep
  slot := u.slot
  free := fun b ob e nb hx => by rw [upd_ne (fun z => by rw [z, n0] at e; cases e)]; exact u.free b ob e nb hx
  there := u.there
  tups := fun b xs e => (upd_ne (ne_of_none (u.tups b xs e) n)).trans (u.tups b xs e)
  frzs := fun b ob x e => (upd_ne (ne_of_none (u.frzs b ob x e) n)).trans (u.frzs b ob x e)
  tbls := fun b ps e => let ⟨m, q⟩ := u.tbls b ps e; ⟨m, (upd_ne (ne_of_none q n)).trans q⟩
theorem Inv.hold {X : Cx} {pins : List (Addr × Obj)} {σ : L2.St} {H : Hp} {s : Shared} {a : Addr} {oe : Obj} {vs : Array Value} {cls : Value} {d : Option Addr} (I : Inv X ((a, oe) :: pins) σ H s) (hz : Zc cls d oe) (hd : oe.data = .fields vs) (n0 : X.s_0.heap.get? a = none) (np : ∀ p ∈ X.pn ++ pins, p.1 ≠ a) :
    Inv X pins σ (upd H a (ExV cls d a)) s := by
  obtain ⟨ea, na, nl, nf, nc⟩ := I.pin (a, oe) (List.mem_append_right _ List.mem_cons_self)
  refine ⟨I.ok, I.os, I.bare, Un.hold I.base n0 na, I.loc, I.cell, (upd_ne (Ne.symm nl)).trans I.free, fun x c e => ?_, fun p hp => ?_, ?_, I.len⟩
  · have hc : c ≠ a := fun z => by
      obtain ⟨v, o, ho, hd'⟩ := I.cell x c e
      rw [z, ea] at ho
      cases ho
      exact nc v hd'
    exact (upd_ne hc).trans (I.freeC x c e)
  · have hm : p ∈ X.pn ++ (a, oe) :: pins := by
      rcases List.mem_append.mp hp with h | h
      · exact List.mem_append_left _ h
      · exact List.mem_append_right _ (List.mem_cons_of_mem _ h)
    obtain ⟨e1, e2, e3⟩ := I.pin p hm
    exact ⟨e1, (upd_ne (np p hp)).trans e2, e3⟩
  · exact HOk.laidN I.hok (fun _ _ q => q) na (exV_ok ea hz hd)
/-- what the clause 'except x as n' wishes of an exception of the body: slot i is n's; behind the suite the exception is held -/
def wHeld (K : PySem.W.Frag) (c : Value) (i : Nat) (ts : Addr → Value → Option Addr → TS) (Wout : WX) (D : Ends) : WX := fun cls d σ H =>
  ∃ b, PySem.W.exmOne K cls c = some b ∧ (b = true → ∀ a, H a = none → ts a cls d { nx := fun σ' H' => H' a = none → D.nx (σ'.set i none) (upd H' a (ExV cls d a)), rt := D.rt, bk := fun σ' H' => D.bk (σ'.set i none) H', ct := fun σ' H' => D.ct (σ'.set i none) H' } (σ.set i (some (.ref a))) H) ∧
    (b = false → Wout cls d σ H)
section
variable {X : Cx} {x n : Str} {c : Value} {i : Nat} {body suite : List Stmt} {b₀ : Stmt} {np pos pos' : Pos} {tb : WX → TS} {ts : Addr → Value → Option Addr → TS} {Wout : WX}
theorem ps_try_held (hs : X.stack = X.env :: X.outer) (hf : X.env.frame = some X.env.locals) (hex : X.ex = []) (hN : X.N.Nodup) (hi : X.N[i]? = some n) (hln : X.env.kindOf n = some .local) (hc : L2.Names X x c) (tk : Takes X Wout)
    (hb : ∀ (W : WX) (pn : List (Addr × Obj)) (xe : Value → Shared → Prop), Takes (X.tr pn xe) W → PassesOwn (model X.prog X.w) X.A X.env xe → PSs (X.tr pn xe) body (tb W))
    (hsu : ∀ (a : Addr) (oe : Obj) (cls : Value) (d : Option Addr) (pn : List (Addr × Obj)), Zc cls d oe → (∃ vs, oe.data = .fields vs) → PSs (X.suite a ((a, oe) :: pn)) (b₀ :: suite) (ts a cls d)) :
    PS X (.Try body [.ExceptHandler (some (.Name x np)) (some n) (b₀ :: suite) pos'] [] [] pos) (fun D σ H => tb (wHeld X.K c i ts Wout D) D σ H) := by
  refine ⟨fun pins s σ H D I h => ?_⟩
  have ok := I.ok
  have hfr : X.A.frames = some (X.env :: X.outer) := by rw [ok.frames, hs]
  have hloc : Loc X.env.scope n := .inl hln
  refine wpAny_Try_except ?_
  refine wpAny_mono ((hb (wHeld X.K c i ts Wout D) (X.pn ++ pins) (fun e s₁ => wpAny (model X.prog X.w) X.A (noteFrame e X.env) (fun _ s₂ => wpAny (model X.prog X.w) X.A (setFlight e none) (fun _ s₃ =>
    wpAny (model X.prog X.w) X.A (handleBy e X.env [.ExceptHandler (some (.Name x np)) (some n) (b₀ :: suite) pos']) (SP X pins D) X.xe s₃) X.xe s₂) X.xe s₁) (fun u s' xx => ?_) PassesOwn.looking).run [] s σ H D (I.toTry _) h) (fun f s1 hsp => ?_) (fun e s1 he => he)
  · obtain ⟨a, B, sI, pins', σ', H', cls, d, rfl, J', nb, up, sky, na, os, ag, b, hb1, hyes, hno⟩ := xx
    have J : Inv X pins σ' H' sI := J'.ofTry ok
    have sky' : Sky B (X.env :: X.outer) a (Zc cls d) X.env.locals s'.heap := by rw [← hs]; exact sky
    have nB : B.get? a = none := by
      rcases sky with ⟨_, hn, _⟩ | ⟨_, hn, _⟩ | ⟨_, hn, _⟩ <;> exact hn
    show wpAny (model X.prog X.w) X.A (noteFrame (.ref a) X.env) _ _ _
    refine Sky.land Zc.steady hfr hf sky' fun h3 fl3 up3 => ?_
    have J3 : Inv X pins σ' H' { s' with heap := h3 } := J.landed nb fl3.1 (up.trans up3) os ag
    obtain ⟨oe3, vs3, he3, hz3, hd3⟩ := fl3.there
    have notFr : ∀ {h : Heap} {o : Obj} {vs : Array Value}, h.FunFrames B (X.env :: X.outer) → h.get? a = some o → o.data = .fields vs → a ∉ frs (X.env :: X.outer) := fun {h o vs} ff e dd hm => by
      obtain ⟨_, o', e', hnf⟩ := ff.mem hm
      rw [e] at e'; cases e'
      exact hnf _ dd
    have nfr := notFr fl3.2.2.1 he3 hd3
    have nI : sI.heap.get? a = none := by
      cases q : sI.heap.get? a with
      | none => rfl
      | some o =>
        have z := nb a o q (by rw [hs]; exact nfr)
        rw [nB] at z; cases z
    have n0 : X.s_0.heap.get? a = none := by
      cases q : X.s_0.heap.get? a with
      | none => rfl
      | some o =>
        obtain ⟨o', z⟩ := J.base.there a o q (by rw [hex]; exact fun z => nomatch z)
        rw [nI] at z; cases z
    have npn : ∀ p ∈ X.pn ++ pins, p.1 ≠ a := fun p hp z => by
      have q := (J.pin p hp).1
      rw [z, nI] at q; cases q
    have nL : a ≠ X.env.locals := fun z => nfr (List.mem_filterMap.mpr ⟨X.env, List.mem_cons_self, by rw [hf, z]⟩)
    have nF : a ∉ X.fs := fun hm => by
      obtain ⟨e, he, q⟩ := List.mem_filterMap.mp hm
      exact nfr (List.mem_filterMap.mpr ⟨e, List.mem_cons_of_mem _ he, q⟩)
    have S3 := J3.suite he3 hd3 na nL nF
    refine wpAny_handleBy_cons (codeAny_handlers_test ?_) (by intro q; cases q)
    have LT : PySem.W.Looks (model X.prog X.w) h3 (typeOf (.ref a)) cls := fun A Q E s k q => wpAny_typeOf_ref (k _ _ he3) (by rw [hz3.1]; exact q)
    have LM := PySem.W.exm_one (M := model X.prog X.w) (J3.kIn) LT hb1
    have test : ∀ {Q : Value → Shared → Prop} {E : Value → Shared → Prop}, Q c { s' with heap := h3 } → wpAny (model X.prog X.w) (X.A.mark (some (.ref a))) (eval (.Name x np) X.env) Q E { s' with heap := h3 } := fun {Q E} q => by
      obtain ⟨hg, hdbg, hm | ⟨hm, hv, hnn⟩⟩ := hc
      · exact ld_glob (X := X.suite a ((a, oe3) :: (X.pn ++ pins))) S3 hg hm q hdbg
      · exact ld_blt (X := X.suite a ((a, oe3) :: (X.pn ++ pins))) S3 hg hm hv q hnn hdbg
    refine test (LM.here ?_)
    cases b with
    | true =>
      refine codeAny_handlers_suite_as ?_
      refine HandSPX.lands_againZ fl3 fun h4 fl4 up4 => ?_
      have J4 : Inv X pins σ' H' { s' with heap := h4 } := J.landed nb fl4.1 ((up.trans up3).trans up4) os ag
      obtain ⟨oe4, vs4, he4, hz4, hd4⟩ := fl4.there
      have S4 := J4.suite he4 hd4 na nL nF
      refine store_ok (X := X.suite a ((a, oe4) :: (X.pn ++ pins))) (v := .ref a) S4 hN hi hloc rfl (fun s5 S5 => ?_) (.inr hln)
      refine wpAny_mono ((hsu a oe4 cls d (X.pn ++ pins) hz4 ⟨_, hd4⟩).run [] s5 _ H' _ S5 (hyes rfl a na)) (fun f s6 hsp => ?_) (fun _ _ z => False.elim z)
      have end_ : ∀ {σ6 : L2.St} {H6 : Hp} {Q : Shared → Prop}, Inv (X.suite a ((a, oe4) :: (X.pn ++ pins))) [] σ6 H6 s6 → (∀ s7, Inv X ((a, oe4) :: pins) (σ6.set i none) H6 s7 → Q s7) →
          wpAny (model X.prog X.w) X.A (do bindName X.env n .none; unbindBehindTheSuite X.env n pos') (fun _ s7 => Q s7) X.xe s6 := fun {σ6 H6 Q} S6 hq => by
        have J6 : Inv X ((a, oe4) :: pins) σ6 H6 s6 := ⟨ok, S6.os, S6.bare, S6.base, S6.loc, S6.cell, S6.free, S6.freeC, fun p hp => S6.pin p (by
          rw [List.append_nil]
          rcases List.mem_append.mp hp with h | h
          · exact List.mem_cons_of_mem _ (List.mem_append_left _ h)
          · rcases List.mem_cons.mp h with h | h
            · rw [h]; exact List.mem_cons_self
            · exact List.mem_cons_of_mem _ (List.mem_append_right _ h)), S6.hok, S6.len⟩
        exact gone_ok J6 hN hi hln hq
      have drop : ∀ {σ7 : L2.St} {H7 : Hp} {s7 : Shared}, Inv X ((a, oe4) :: pins) σ7 H7 s7 → Inv X pins σ7 H7 s7 := fun J7 => ⟨J7.ok, J7.os, J7.bare, J7.base, J7.loc, J7.cell, J7.free, J7.freeC, fun p hp => J7.pin p (by
          rcases List.mem_append.mp hp with h | h
          · exact List.mem_append_left _ h
          · exact List.mem_append_right _ (List.mem_cons_of_mem _ h)), J7.hok, J7.len⟩
      cases f with
      | next =>
        obtain ⟨σ6, H6, S6, q6⟩ := hsp
        exact end_ S6 fun s7 J7 => ⟨_, _, Inv.hold J7 hz4 hd4 n0 npn, q6 (J7.pin (a, oe4) (List.mem_append_right _ List.mem_cons_self)).2.1⟩
      | brk =>
        obtain ⟨σ6, H6, S6, q6⟩ := hsp
        exact end_ S6 fun s7 J7 => ⟨_, _, drop J7, q6⟩
      | cont =>
        obtain ⟨σ6, H6, S6, q6⟩ := hsp
        exact end_ S6 fun s7 J7 => ⟨_, _, drop J7, q6⟩
      | ret u =>
        obtain ⟨v6, σ6, H6, S6, r6, q6⟩ := hsp
        exact end_ S6 fun s7 J7 => ⟨_, _, _, drop J7, r6, q6⟩
    | false =>
      show wpAny _ X.A (handleBy (.ref a) X.env []) _ _ _
      refine wpAny_handleBy_nil ?_
      obtain ⟨k1, k2, k3, oe, vs, T, oT, ts', he, hz, hd, h1, hr⟩ := id fl3
      unfold PySem.passOn
      refine wpAny_bind (wpAny_field he hd h1 ?_)
      rw [if_neg (show ¬ ((Value.ref T == Value.none) = true) from by simp)]
      have fin : wpAny (model X.prog X.w) X.A (setFlight (.ref a) X.env.frame) (fun _ s4 => wpAny (model X.prog X.w) X.A (throw (.ref a) : Sem Flow) (SP X pins D) X.xe s4) X.xe { s' with heap := h3 } := by
        rw [hf]
        refine HandSPX.setFlight_upZ fl3 fun h4 hh4 up4 => wpAny_throw (tk _ _ ?_)
        exact ⟨a, B, sI, pins, σ', H', cls, d, rfl, J, nb, (up.trans up3).trans up4, .inr (.inr (by rw [hs]; exact hh4)), na, os, ag, hno rfl⟩
      first
        | exact wpAny_bind (wpAny_pure (wpAny_bind fin))
        | exact wpAny_bind fin
  · cases f with
    | next =>
      obtain ⟨σ', H', J', q⟩ := hsp
      exact wpAny_execs_nil ⟨σ', H', J'.ofTry ok, q⟩
    | brk =>
      obtain ⟨σ', H', J', q⟩ := hsp
      exact ⟨σ', H', J'.ofTry ok, q⟩
    | cont =>
      obtain ⟨σ', H', J', q⟩ := hsp
      exact ⟨σ', H', J'.ofTry ok, q⟩
    | ret u =>
      obtain ⟨v, σ', H', J', r, q⟩ := hsp
      exact ⟨v, σ', H', J'.ofTry ok, r, q⟩
end
/-! ### a def that may raise, by its name -/
structure HasX (P : Program) (w : World) (K : PySem.W.Frag) (mg : Str → Option Value) (base : Heap) (x : Str) (k : Nat) (ps : List Str) (sp : Sp) : Prop where
  ex : ∃ f fd, FnOk P w K mg base (L2.CX P w) k f fd ps sp ∧ mg x = some (.ref f) ∧ PySem.W.keepIn K (.ref f) = true ∧ Binds K fd ps []
theorem fnOk_calm {P : Program} {w : World} {K : PySem.W.Frag} {mg : Str → Option Value} {base : Heap} {k : Nat} {f : Addr} {fd : FuncData} {ps : List Str} {sp : Sp} (F : FnOk P w K mg base (L2.CX P w) k f fd ps sp) : FnOk P w K mg base CX0 k f fd ps (fun vs H Q _ => sp vs H Q E0) :=
  ⟨fun vs H Q E q => F.len vs H Q E0 q, fun A outer s H args us vs Q E hr he hb hv hs => codeAny_mono (F.run A outer s H args us vs Q E0 hr he hb hv hs) fun r s' hq => by
    cases r with
    | error e =>
      obtain ⟨_, _, _, _, _, _, _, _, _, _, _, _, z⟩ := hq
      exact z.elim
    | ok fl => cases fl <;> exact hq⟩
theorem HasX.calm {P : Program} {w : World} {K : PySem.W.Frag} {mg : Str → Option Value} {base : Heap} {x : Str} {k : Nat} {ps : List Str} {sp : Sp} (h : HasX P w K mg base x k ps sp) : Has P w K mg base x k ps (fun vs H Q _ => sp vs H Q E0) := by
  obtain ⟨f, fd, F, a, b, c⟩ := h.ex
  exact ⟨f, fd, fnOk_calm F, a, b, c⟩
theorem Has.imp {P : Program} {w : World} {K : PySem.W.Frag} {mg : Str → Option Value} {base : Heap} {x : Str} {k : Nat} {ps : List Str} {sp sp' : Sp} (h : Has P w K mg base x k ps sp) (i : ∀ vs H Q E, sp' vs H Q E → sp vs H Q E) : Has P w K mg base x k ps sp' := by
  obtain ⟨f, fd, F, a, b, c⟩ := h.ex
  exact ⟨f, fd, F.imp i, a, b, c⟩
section
variable {X : Cx} {k : Nat} {ps : List Str} {sp : Sp} {x : Str} {p pos : Pos} {e : Expr} {es : List Expr} {t : TA} {W : WX} {σ : L2.St} {H : Hp} {Q : VK}
end
/-! ### .. by keywords, in the parameters' order or turned round -/
section
variable {X : Cx} {k : Nat} {ps ks : List Str} {rv : Bool} {sp : Sp} {x : Str} {p pos : Pos} {kws : List Keyword} {tkw : TA} {W : WX} {σ : L2.St} {H : Hp} {Q : VK}
end
theorem call_isiEK {X : Cx} {K : PySem.W.Frag} (h : X.K = K := by rfl) : CallR X (.builtin "isinstance") (rIsiE K) := by subst h; exact call_isiE
/-! ### own exception classes -/
structure OwnX (K : PySem.W.Frag) (mg : Str → Option Value) (x : Str) (C : Addr) : Prop where
  xi : PySem.W.excIn K C [.type "ValueError", .type "Exception", .type "BaseException", .type "object"] "ValueError.__new__" = true
  g : mg x = some (.ref C)
  k : PySem.W.keepIn K (.ref C) = true
  b : PySem.W.subIn K (.ref C) (.type "BaseException") = some true
  t : PySem.W.typeIn K (.ref C) = some (.type "type")
  e : ExcTy K C
  cs : ∃ cd, PySem.W.clsIn K C = some cd
theorem OwnX.catch {K : PySem.W.Frag} {mg : Str → Option Value} {x : Str} {C : Addr} {cls : Value} {b : Bool} (h : OwnX K mg x C) (s : PySem.W.subIn K cls (.ref C) = some b) : PySem.W.exmOne K cls (.ref C) = some b := PySem.W.exm_ref h.b h.e.dct h.t s
theorem OwnX.kit {K : PySem.W.Frag} {mg : Str → Option Value} {x : Str} {C : Addr} {cls : Value} {b : Bool} (h : OwnX K mg x C) (s : PySem.W.subIn K cls (.ref C) = some b) (ne : (cls == .ref C) = false) : PySem.W.kitOne K cls (.ref C) = some b := by
  obtain ⟨cd, e⟩ := h.cs
  unfold PySem.W.kitOne PySem.W.kitCls
  rw [ne, if_neg Bool.false_ne_true]
  show (if ((PySem.W.clsIn K C).isSome && PySem.W.typeIn K (.ref C) == some (.type "type")) = true then PySem.W.subIn K cls (.ref C) else none) = some b
  rw [e, h.t, if_pos (by simp)]
  exact s
theorem kit_own {K : PySem.W.Frag} {C : Addr} : PySem.W.kitOne K (.ref C) (.ref C) = some true := by
  unfold PySem.W.kitOne
  rw [if_pos (beq_self_eq_true _)]
/-- an own class, a built-in one -/
theorem kit_ownB {K : PySem.W.Frag} {C : Addr} {T : String} {b : Bool} (s : PySem.W.subIn K (.ref C) (.type T) = some b) (h : PySem.W.kitCls K (.ref C) (.type T) = PySem.W.subIn K (.ref C) (.type T) := by rfl) : PySem.W.kitOne K (.ref C) (.type T) = some b := by
  unfold PySem.W.kitOne
  rw [if_neg (by simp), h]
  exact s
theorem r_isiE' {K : PySem.W.Frag} {H : Hp} {Q : VK} {x c : V} {t u : Value} {b : Bool} (hc : ClsV c u) (ty : TyE K H x t) (e : PySem.W.kitOne K t u = some b) (q : Q (.bl b) H) : rIsiE K [x, c] H Q := ⟨x, c, t, u, b, rfl, hc, ty, e, q⟩
/-- a value that is no integer, or a truth -/
def NotInt (K : PySem.W.Frag) (H : Hp) (v : V) : Prop := ∃ t b1 b2, TyE K H v t ∧ PySem.W.kitOne K t (.type "int") = some b1 ∧ PySem.W.kitOne K t (.type "bool") = some b2 ∧ (b1 && !b2) = false
def NotIntS (K : PySem.W.Frag) (H : Hp) (v : V) : Prop := ∀ H', Same H H' → NotInt K H' v
theorem NotIntS.same {K : PySem.W.Frag} {H H' : Hp} {v : V} (h : NotIntS K H v) (s : Same H H') : NotIntS K H' v := fun H2 s2 => h H2 (s.trans s2)
section
variable {K : PySem.W.Frag} {H : Hp}
end
end My

set_option Elab.async false
set_option linter.all false
set_option maxRecDepth 100000
namespace My
open PySem PySem.Spec PyProof.Rows L2
/-! ### undone programs -/
namespace Prog
end Prog
end My

set_option Elab.async false
set_option linter.all false
set_option maxRecDepth 100000
namespace My
open PySem PySem.Spec PyProof.Rows L2 RT
theorem WfL.split {L : Nat} {C T : Int} : ∀ {d : Nat} {p q : Prog}, WfL L C T d (p.app q) → WfL L C T d p ∧ WfL L C T d q
  | _, .nil, _, h => ⟨WfL.nil, h⟩
  | d, .step w n r, q, h => by
    have h := WfL.step_iff.mp (show WfL L C T d (.step w n (r.app q)) from h)
    exact ⟨WfL.step_iff.mpr ⟨h.1, h.2.1, (WfL.split h.2.2).1⟩, (WfL.split h.2.2).2⟩
  | d, .turn k r, q, h => by
    have h := WfL.turn_iff.mp (show WfL L C T d (.turn k (r.app q)) from h)
    exact ⟨WfL.turn_iff.mpr ⟨h.1, (WfL.split h.2).1⟩, (WfL.split h.2).2⟩
  | 0, .rep _ _ _, _, h => h.elim
  | d + 1, .rep k b r, q, h => by
    have h : (1 ≤ k ∧ k ≤ C) ∧ (1 ≤ b.len ∧ b.len ≤ L) ∧ WfL L C T d b ∧ WfL L C T (d + 1) (r.app q) := h
    exact ⟨⟨h.1, h.2.1, h.2.2.1, (WfL.split h.2.2.2).1⟩, (WfL.split h.2.2.2).2⟩
  | 0, .mir _ _, _, h => h.elim
  | d + 1, .mir b r, q, h => by
    have h : (1 ≤ b.len ∧ b.len ≤ L) ∧ WfL L C T d b ∧ WfL L C T (d + 1) (r.app q) := h
    exact ⟨⟨h.1, h.2.1, (WfL.split h.2.2).1⟩, (WfL.split h.2.2).2⟩
theorem PrAt.split {H : Hp} : ∀ {p q : Prog} {xs : List V}, PrAt H (p.app q) xs → ∃ ys zs, xs = ys ++ zs ∧ PrAt H p ys ∧ PrAt H q zs
  | .nil, q, xs, h => ⟨[], xs, rfl, rfl, h⟩
  | .step w n r, q, xs, h => by
    obtain ⟨c, ys, e, h1, h2⟩ := h
    obtain ⟨us, vs, e2, h3, h4⟩ := PrAt.split (p := r) h2
    exact ⟨.ref c :: us, vs, by rw [e, e2]; rfl, ⟨c, us, rfl, h1, h3⟩, h4⟩
  | .turn k r, q, xs, h => by
    obtain ⟨c, ys, e, h1, h2⟩ := h
    obtain ⟨us, vs, e2, h3, h4⟩ := PrAt.split (p := r) h2
    exact ⟨.ref c :: us, vs, by rw [e, e2]; rfl, ⟨c, us, rfl, h1, h3⟩, h4⟩
  | .rep k b r, q, xs, h => by
    obtain ⟨c, q0, z0, ys, e, h1, h0, hb, h2⟩ := h
    obtain ⟨us, vs, e2, h3, h4⟩ := PrAt.split (p := r) h2
    exact ⟨.ref c :: us, vs, by rw [e, e2]; rfl, ⟨c, q0, z0, us, rfl, h1, h0, hb, h3⟩, h4⟩
  | .mir b r, q, xs, h => by
    obtain ⟨c, q0, z0, ys, e, h1, h0, hb, h2⟩ := h
    obtain ⟨us, vs, e2, h3, h4⟩ := PrAt.split (p := r) h2
    exact ⟨.ref c :: us, vs, by rw [e, e2]; rfl, ⟨c, q0, z0, us, rfl, h1, h0, hb, h3⟩, h4⟩
section
variable {σ : L2.St} {H : Hp} {K : PySem.W.Frag} {D : Ends} {tb : TS} {g : TG} {a : Addr} {xs : List V} {p : Prog}
end
end My

set_option Elab.async false
set_option linter.all false
set_option maxRecDepth 100000
namespace My
open PySem PySem.Spec PyProof.Rows L2 HT PySem.Builtin
/-! ### t[::-1], t a tuple -/
section
variable {prog : Program} {w : World} {A : Around} {E : Value → Shared → Prop} {s : Shared}
end
section
variable {X : Cx} {pos : Pos}
end
end My

set_option Elab.async false
set_option linter.all false
set_option maxRecDepth 100000
namespace My
open PySem PySem.Spec PyProof.Rows L2
/-! ### terms: powers and numbers -/
abbrev Terms := List (Int × Int)
/-- the number of a power: the sum of the numbers with it -/
def cof : Terms → Int → Int
  | [], _ => 0
  | p :: l, k => (if p.1 = k then p.2 else 0) + cof l k
/-- ascending powers, no number 0 -/
structure Canon (l : Terms) : Prop where
  asc : l.Pairwise fun p q => p.1 < q.1
  nz : ∀ p ∈ l, p.2 ≠ 0
theorem cof_none : ∀ {l : Terms} {k : Int}, (∀ p ∈ l, p.1 ≠ k) → cof l k = 0
  | [], _, _ => rfl
  | p :: l, k, h => by
    rw [cof, if_neg (h p List.mem_cons_self), cof_none fun q hq => h q (List.mem_cons_of_mem _ hq), Int.add_zero]
theorem Canon.nil : Canon [] := ⟨.nil, fun _ h => absurd h (by simp)⟩
theorem Canon.tail {p : Int × Int} {l : Terms} (h : Canon (p :: l)) : Canon l := ⟨(List.pairwise_cons.mp h.asc).2, fun q hq => h.nz q (List.mem_cons_of_mem _ hq)⟩
theorem Canon.head {p : Int × Int} {l : Terms} (h : Canon (p :: l)) : cof (p :: l) p.1 = p.2 := by
  rw [cof, if_pos rfl, cof_none fun q hq => by have := (List.pairwise_cons.mp h.asc).1 q hq; omega, Int.add_zero]
theorem Canon.low {p : Int × Int} {l : Terms} (h : Canon (p :: l)) {k : Int} (hk : k < p.1) : cof (p :: l) k = 0 :=
  cof_none fun q hq => by
    rcases List.mem_cons.mp hq with rfl | hq
    · omega
    · have := (List.pairwise_cons.mp h.asc).1 q hq; omega
/-- what the numbers are, the canonical terms are -/
theorem Canon.ext : ∀ {l m : Terms}, Canon l → Canon m → (∀ k, cof l k = cof m k) → l = m
  | [], [], _, _, _ => rfl
  | p :: l, [], h, _, e => absurd ((h.head.symm.trans (e p.1)).trans rfl) (h.nz p List.mem_cons_self)
  | [], q :: m, _, h, e => absurd ((h.head.symm.trans (e q.1).symm).trans rfl) (h.nz q List.mem_cons_self)
  | p :: l, q :: m, h, h', e => by
    have hp := h.nz p List.mem_cons_self
    have hq := h'.nz q List.mem_cons_self
    have e1 : p.1 = q.1 := by
      rcases Int.lt_trichotomy p.1 q.1 with a | a | a
      · have := e p.1
        rw [h.head, h'.low a] at this
        exact absurd this hp
      · exact a
      · have := e q.1
        rw [h'.head, h.low a] at this
        exact absurd this.symm hq
    have e2 : p.2 = q.2 := by
      have := e p.1
      rw [h.head, e1, h'.head] at this
      exact this
    have e3 : p = q := Prod.ext e1 e2
    subst e3
    have e4 : l = m := Canon.ext h.tail h'.tail fun k => by
      have := e k
      rw [cof, cof] at this
      omega
    rw [e4]
theorem Canon.zero {l : Terms} (h : Canon l) (e : ∀ k, cof l k = 0) : l = [] := Canon.ext h Canon.nil e
/-! ### sorted(d), d a dict of int keys, any number of them -/
/-! ### jars: dicts of ints by ints -/
def cfK (kvs : List (Key × V)) (k : Int) : Int := match valV kvs (.inl k) with | some (.int n) => n | _ => 0
structure JarK (kvs : List (Key × V)) : Prop where
  prs : ∀ p ∈ kvs, ∃ k n : Int, p = (Sum.inl k, V.int n)
  nd : (kvs.map (·.1)).Nodup
theorem mem_put {kvs : List (Key × V)} {k : Key} {v : V} {p : Key × V} (h : p ∈ putK kvs k v) : p ∈ kvs ∨ p = (k, v) := by
  unfold putK at h
  split at h
  · obtain ⟨q, hq, e⟩ := List.mem_map.mp h
    split at e
    · rename_i ek; right; rw [← e, ek]
    · left; rw [← e]; exact hq
  · rcases List.mem_append.mp h with h | h
    · exact .inl h
    · exact .inr (List.mem_singleton.mp h)
theorem keys_put (kvs : List (Key × V)) (k : Key) (v : V) : (putK kvs k v).map (·.1) = if (kvs.any fun kv => decide (kv.1 = k)) = true then kvs.map (·.1) else kvs.map (·.1) ++ [k] := by
  unfold putK
  split
  · rw [List.map_map]
    refine List.map_congr_left fun p _ => ?_
    show (if p.1 = k then (p.1, v) else p).1 = p.1
    split <;> rfl
  · rw [List.map_append]; rfl
theorem nodup_put {kvs : List (Key × V)} (h : (kvs.map (·.1)).Nodup) (k : Key) (v : V) : ((putK kvs k v).map (·.1)).Nodup := by
  rw [keys_put]
  split
  · exact h
  · rename_i hn
    refine List.nodup_append.mpr ⟨h, by simp, fun a ha b hb e => hn ?_⟩
    have hb := List.mem_singleton.mp hb
    subst hb
    subst e
    obtain ⟨p, hp, e⟩ := List.mem_map.mp ha
    exact List.any_eq_true.mpr ⟨p, hp, decide_eq_true e⟩
theorem JarK.nil : JarK [] := ⟨fun _ h => absurd h (by simp), by simp⟩
theorem JarK.put {kvs : List (Key × V)} (h : JarK kvs) (k n : Int) : JarK (putK kvs (.inl k) (.int n)) := by
  refine ⟨fun p hp => ?_, nodup_put h.nd _ _⟩
  rcases mem_put hp with h1 | rfl
  · exact h.prs p h1
  · exact ⟨k, n, rfl⟩
theorem val_mem {kvs : List (Key × V)} {k : Key} {v : V} (h : valV kvs k = some v) : (k, v) ∈ kvs := by
  unfold valV at h
  cases e : kvs.find? fun kv => decide (kv.1 = k) with
  | none => rw [e] at h; cases h
  | some p =>
    rw [e] at h
    have h1 := List.mem_of_find?_eq_some e
    have h2 := List.find?_some e
    have h3 : p.1 = k := of_decide_eq_true h2
    have h4 : p.2 = v := Option.some.inj h
    rw [← h3, ← h4]
    exact h1
theorem val_none {kvs : List (Key × V)} {k : Key} (h : valV kvs k = none) : ∀ p ∈ kvs, p.1 ≠ k := by
  intro p hp e
  unfold valV at h
  have h2 : kvs.find? (fun kv => decide (kv.1 = k)) = none := by
    cases q : kvs.find? (fun kv => decide (kv.1 = k)) with
    | none => rfl
    | some _ => rw [q] at h; cases h
  have := List.find?_eq_none.mp h2 p hp
  exact this (decide_eq_true e)
theorem JarK.val {kvs : List (Key × V)} (h : JarK kvs) (k : Int) : (valV kvs (.inl k)).getD (.int 0) = .int (cfK kvs k) := by
  unfold cfK
  cases e : valV kvs (.inl k) with
  | none => rfl
  | some v =>
    obtain ⟨k', n, e2⟩ := h.prs _ (val_mem e)
    cases e2
    rfl
theorem JarK.some {kvs : List (Key × V)} (h : JarK kvs) {k : Int} (m : Sum.inl k ∈ kvs.map (·.1)) : valV kvs (.inl k) = some (.int (cfK kvs k)) := by
  have hv := h.val k
  cases e : valV kvs (.inl k) with
  | none =>
    obtain ⟨p, hp, ek⟩ := List.mem_map.mp m
    exact absurd ek (val_none e p hp)
  | some v => rw [e] at hv; exact congrArg Option.some hv
theorem JarK.keys {kvs : List (Key × V)} (h : JarK kvs) : ∃ ks : List Int, kvs.map (·.1) = ks.map Sum.inl ∧ ks.Nodup ∧ (∀ k, ¬ k ∈ ks → cfK kvs k = 0) ∧ ks.length = kvs.length := by
  have hex : ∀ {l : List (Key × V)}, (∀ p ∈ l, ∃ k n : Int, p = (Sum.inl k, V.int n)) → ∃ ks : List Int, l.map (·.1) = ks.map Sum.inl := by
    intro l
    induction l with
    | nil => intro _; exact ⟨[], rfl⟩
    | cons p l ih =>
      intro hl
      obtain ⟨k, n, e⟩ := hl p List.mem_cons_self
      obtain ⟨ks, e2⟩ := ih fun q hq => hl q (List.mem_cons_of_mem _ hq)
      exact ⟨k :: ks, by rw [List.map_cons, List.map_cons, e2, e]⟩
  obtain ⟨ks, e⟩ := hex h.prs
  refine ⟨ks, e, ?_, fun k hk => ?_, ?_⟩
  · have := h.nd
    rw [e] at this
    exact (List.pairwise_map.mp this).imp fun a b => a (congrArg Sum.inl b)
  · unfold cfK
    cases q : valV kvs (.inl k) with
    | none => rfl
    | some v =>
      have hm : Sum.inl k ∈ kvs.map (·.1) := List.mem_map.mpr ⟨_, val_mem q, rfl⟩
      rw [e] at hm
      obtain ⟨k', hk', e'⟩ := List.mem_map.mp hm
      cases e'
      exact absurd hk' hk
  · have := congrArg List.length e
    simpa using this.symm
/-- the jar at a: its numbers c, at most n powers -/
def JarAt (H : Hp) (a : Addr) (n : Nat) (c : Int → Int) : Prop := ∃ kvs, H a = some (.dK kvs) ∧ JarK kvs ∧ kvs.length ≤ n ∧ ∀ k, cfK kvs k = c k
theorem JarAt.new {H : Hp} {p : Addr} : JarAt (upd H p (.dK [])) p 0 fun _ => 0 := ⟨[], upd_same, .nil, Nat.le_refl _, fun _ => rfl⟩
theorem JarAt.same {H H' : Hp} {a : Addr} {n : Nat} {c : Int → Int} (h : JarAt H a n c) (s : Same H H') : JarAt H' a n c := let ⟨kvs, e, r⟩ := h; ⟨kvs, s _ _ e, r⟩
theorem JarAt.keep {H : Hp} {a p : Addr} {o : HO} {n : Nat} {c : Int → Int} (h : JarAt H a n c) (q : H p = none) : JarAt (upd H p o) a n c := let ⟨kvs, e, r⟩ := h; ⟨kvs, h_keep e q, r⟩
theorem JarAt.but {H H' : Hp} {a b : Addr} {n : Nat} {c : Int → Int} (h : JarAt H a n c) (ne : a ≠ b) (s : But b H H') : JarAt H' a n c := let ⟨kvs, e, r⟩ := h; ⟨kvs, s _ _ ne e, r⟩
theorem JarAt.ext {H : Hp} {a : Addr} {n : Nat} {c d : Int → Int} (h : JarAt H a n c) (e : ∀ k, c k = d k) : JarAt H a n d := let ⟨kvs, e1, r1, r2, r3⟩ := h; ⟨kvs, e1, r1, r2, fun k => (r3 k).trans (e k)⟩
theorem JarAt.ne {H : Hp} {a p : Addr} {n : Nat} {c : Int → Int} (h : JarAt H a n c) (q : H p = none) : p ≠ a := let ⟨_, e, _⟩ := h; (ne_of_none e q).symm
/-- k is a key of the jar -/
def JarHas (H : Hp) (a : Addr) (k : Int) : Prop := ∃ kvs : List (Key × V), H a = some (.dK kvs) ∧ Sum.inl k ∈ kvs.map (·.1)
theorem JarHas.same {H H' : Hp} {a : Addr} {k : Int} (h : JarHas H a k) (s : Same H H') : JarHas H' a k := let ⟨kvs, e, r⟩ := h; ⟨kvs, s _ _ e, r⟩
section
variable {σ : L2.St} {H : Hp} {Q : VK} {K : PySem.W.Frag} {td ty tx tv : TE} {a : Addr} {n : Nat} {c : Int → Int} {D : Ends}
end
/-- pairs of ints, laid as tuples -/
def TermsL (H : Hp) : List V → Terms → Prop
  | [], ts => ts = []
  | v :: vs, ts => ∃ b p us, ts = p :: us ∧ v = .ref b ∧ H b = some (.tup [.int p.1, .int p.2]) ∧ TermsL H vs us
theorem TermsL.tk {H H' : Hp} (t : Tk H H') : ∀ {vs : List V} {ts : Terms}, TermsL H vs ts → TermsL H' vs ts
  | [], _, h => h
  | _ :: _, _, ⟨b, p, us, e1, e2, e3, e4⟩ => ⟨b, p, us, e1, e2, t _ _ e3, e4.tk t⟩
theorem TermsL.app {H : Hp} : ∀ {vs ws : List V} {ts us : Terms}, TermsL H vs ts → TermsL H ws us → TermsL H (vs ++ ws) (ts ++ us)
  | [], ws, ts, us, h, h' => by rw [show ts = [] from h]; exact h'
  | _ :: _, ws, _, us, ⟨b, p, qs, e1, e2, e3, e4⟩, h' => ⟨b, p, qs ++ us, by rw [e1]; rfl, e2, e3, e4.app h'⟩
theorem TermsL.length {H : Hp} : ∀ {vs : List V} {ts : Terms}, TermsL H vs ts → vs.length = ts.length
  | [], ts, h => by rw [show ts = [] from h]; rfl
  | _ :: _, _, ⟨b, p, qs, e1, e2, e3, e4⟩ => by rw [e1, List.length_cons, List.length_cons, e4.length]
theorem TermsL.one {H : Hp} {b : Addr} {x y : Int} (h : H b = some (.tup [.int x, .int y])) : TermsL H [.ref b] [(x, y)] := ⟨b, (x, y), [], rfl, rfl, h, rfl⟩
theorem TermsL.at {H : Hp} : ∀ {vs : List V} {ts : Terms} (i : Nat) {v : V}, TermsL H vs ts → vs[i]? = some v → ∃ b p, v = .ref b ∧ ts[i]? = some p ∧ H b = some (.tup [.int p.1, .int p.2])
  | [], _, _, _, _, h => by cases h
  | _ :: _, _, 0, _, ⟨b, p, qs, e1, e2, e3, e4⟩, h => by
    cases h
    exact ⟨b, p, e2, by rw [e1]; rfl, e3⟩
  | _ :: _, _, i + 1, v, ⟨b, p, qs, e1, e2, e3, e4⟩, h => by
    obtain ⟨b', p', x1, x2, x3⟩ := TermsL.at i e4 h
    exact ⟨b', p', x1, by rw [e1]; exact x2, x3⟩
/-- a list of pairs of ints -/
def TermsAt (H : Hp) (l : Addr) (ts : Terms) : Prop := ∃ vs, H l = some (.lst vs) ∧ TermsL H vs ts
theorem TermsAt.same {H H' : Hp} {l : Addr} {ts : Terms} (h : TermsAt H l ts) (s : Same H H') : TermsAt H' l ts := let ⟨vs, e, e2⟩ := h; ⟨vs, s _ _ e, e2.tk (Tk.same s)⟩
theorem TermsAt.nil {H : Hp} {l : Addr} (h : TermsAt H l []) : H l = some (.lst []) := by
  obtain ⟨as, e, e2⟩ := h
  cases as with
  | nil => exact e
  | cons a r => obtain ⟨_, _, _, e, _⟩ := e2; cases e
/-! ### the same as data -/
/-- data that == can walk -/
def Lay (n : Nat) (d : PyData) : Prop := d.canLay0 = true ∧ d.depth ≤ n
theorem Lay.mono {m n : Nat} {d : PyData} (h : Lay m d) (l : m ≤ n) : Lay n d := ⟨h.1, Nat.le_trans h.2 l⟩
theorem layAll {n : Nat} : ∀ {xs : List PyData}, (∀ x ∈ xs, Lay n x) → PyData.canLayAll0 xs = true ∧ PyData.depthAll xs ≤ n
  | [], _ => by simp [PyData.canLayAll0, PyData.depthAll]
  | x :: xs, h => by
    obtain ⟨h1, h2⟩ := h x List.mem_cons_self
    obtain ⟨h3, h4⟩ := layAll fun y hy => h y (List.mem_cons_of_mem _ hy)
    rw [PyData.canLayAll0, PyData.depthAll, h1, h3]
    exact ⟨rfl, Nat.max_le.mpr ⟨h2, h4⟩⟩
theorem Lay.list {n : Nat} {xs : List PyData} (h : ∀ x ∈ xs, Lay n x) : Lay (n + 1) (.list xs) := by
  obtain ⟨h1, h2⟩ := layAll h
  exact ⟨by rw [PyData.canLay0]; exact h1, by rw [PyData.depth]; omega⟩
theorem Lay.tuple {n : Nat} {xs : List PyData} (h : ∀ x ∈ xs, Lay n x) : Lay (n + 1) (.tuple xs) := by
  obtain ⟨h1, h2⟩ := layAll h
  exact ⟨by rw [PyData.canLay0]; exact h1, by rw [PyData.depth]; omega⟩
theorem Lay.int {n : Nat} (i : Int) : Lay n (.int i) := ⟨by simp [PyData.canLay0], by simp [PyData.depth]⟩
theorem Lay.shaped {n : Nat} {d : PyData} (h : Lay n d) (l : n ≤ 64) : SeqAt.shaped d = true := by
  unfold SeqAt.shaped
  rw [h.1, decide_eq_true (Nat.le_trans h.2 l)]
  rfl
section
variable {X : Cx} {K : PySem.W.Frag}
theorem op_neDK (hu : X.A.units + 64 < cLine) (h : X.K = K := by rfl) : OpR X (compareOp .NotEq) (rNeD K) := by subst h; exact op_neD hu
end
theorem TermsAt.none {H : Hp} {l : Addr} (h : H l = some (.lst [])) : TermsAt H l [] := ⟨[], h, rfl⟩
/-! ### is not None -/
end My

set_option Elab.async false
set_option linter.all false
set_option maxRecDepth 100000
namespace My
open PySem PySem.Spec PyProof.Rows L2
/-! ### iter(t), t a tuple -/
section
variable {X : Cx} {pins : List (Addr × Obj)} {σ : L2.St} {H : Hp} {s : Shared} {Q : VK} {C : Addr} {m : Str} {k : Nat} {ps : List Str} {sp : Sp} {tg l : Expr} {tl : TE}
end
/-! ### a def whose promise knows the state at its entry -/
section
variable {X : Cx} {pins : List (Addr × Obj)} {σ : L2.St} {H : Hp} {s : Shared} {Q : VK} {C : Addr} {m : Str} {k : Nat} {ps : List Str} {f : Addr} {fd : FuncData} {tg l : Expr} {tl : TE}
end
end My

set_option Elab.async false
set_option linter.all false
set_option maxRecDepth 100000
namespace PySem.W
open Lean Elab Tactic Meta PySem PySem.Calls PyProof.Rows
section
variable {prog : Program} {w : World} {A : Around} {E : Value → Shared → Prop} {s : Shared} {K : Frag} {x C L f dx : Addr} {h₀ : Heap} {m : Str → Option Value} {nm T : String} {i : Int} {t : Tok}
end
end PySem.W
namespace PySem.W
open Lean Elab Tactic Meta PySem PySem.Calls PyProof.Rows
section
variable {prog : Program} {w : World} {M : Model} {A : Around} {E : Value → Shared → Prop} {s : Shared} {K : Frag} {x C L f dx : Addr} {h₀ : Heap} {m : Str → Option Value} {nm : String} {ox : Obj} {od : Option Obj}
end
end PySem.W
namespace PySem.W
open Lean Elab Tactic Meta PySem PySem.Calls PyProof.Rows
section
variable {prog : Program} {w : World} {A : Around} {E : Value → Shared → Prop} {s : Shared} {K : Frag} {x C L f dx : Addr} {h₀ : Heap} {m : Str → Option Value} {nm' T : String} {ox : Obj} {od : Option Obj}
end
end PySem.W
namespace My
open PySem PySem.Spec PyProof.Rows L2
section
variable {X : Cx} {pins : List (Addr × Obj)} {σ : L2.St} {H : Hp} {s : Shared} {Q : VK} {C : Addr} {m : Str} {k : Nat} {ps : List Str} {sp : Sp} {f : Addr} {fd : FuncData}
end
end My

set_option Elab.async false
set_option linter.all false
set_option maxRecDepth 100000
namespace My
open PySem PySem.Spec PyProof.Rows L2
/-! ### properties, methods and makings by name -/
section
variable {X : Cx} {C : Addr} {m x : Str} {k : Nat} {ps : List Str} {sp : Sp} {e o : Expr} {es : List Expr} {p pos apos : Pos} {ta : TE} {t : TA}
end
section
variable {σ : L2.St} {H : Hp} {Q : VK} {C : Addr} {m : Str} {sp : Sp} {E : XK} {ta : TE} {t : TA} {K : PySem.W.Frag} {f : Str} {R : It → Hp → Prop} {D : Ends} {te : TE}
end
section
variable {X : Cx} {K : PySem.W.Frag} {C : Addr} {k : Nat} {ps : List Str} {sp : Sp} {fld : Str} {tg l : Expr} {tl : TE}
end
/-! ### polynomials -/
/-- a polynomial with these terms -/
def PolyAt (C : Addr) (H : Hp) (a : Addr) (ts : Terms) : Prop := ∃ dx r vs, H a = some (.ins C dx [("rows", .ref r)]) ∧ H r = some (.tup vs) ∧ TermsL H vs ts ∧ Canon ts
/-- what is neither a list nor a dict stays -/
def Stay (H H' : Hp) : Prop := ∀ c o, (∀ xs, o ≠ .lst xs) → (∀ kvs, o ≠ .dK kvs) → H c = some o → H' c = some o
theorem Stay.tk {H H' : Hp} (s : Stay H H') : Tk H H' := fun c xs e => s c _ (by intro _ z; cases z) (by intro _ z; cases z) e
theorem Stay.same {H H' : Hp} (s : Same H H') : Stay H H' := fun c o _ _ e => s c o e
theorem Stay.but {H H' : Hp} {a : Addr} {xs : List V} (b : But a H H') (h : H a = some (.lst xs)) : Stay H H' := fun c o n _ e => b c o (by rintro rfl; rw [h] at e; cases e; exact n _ rfl) e
theorem Stay.bag {H H' : Hp} {a : Addr} (b : But a H H') (h : Bag H a) : Stay H H' := let ⟨_, _, _, e, _⟩ := h; Stay.but b e
theorem Stay.trans {H H1 H2 : Hp} (s : Stay H H1) (t : Stay H1 H2) : Stay H H2 := fun c o n m e => t c o n m (s c o n m e)
theorem Stay.refl (H : Hp) : Stay H H := fun _ _ _ _ e => e
theorem Stay.new {H H' : Hp} {p : Addr} {o : HO} (h : Stay H H') (n : H' p = none) : Stay H (upd H' p o) := fun c u x y e => h_keep (h c u x y e) n
theorem Stay.lst {H H' : Hp} {p : Addr} {l : List V} {o : HO} (h : Stay H H') (n : H' p = some (.lst l)) : Stay H (upd H' p o) := fun c u x y e => by
  have q := h c u x y e
  refine (upd_ne ?_).trans q
  rintro rfl
  rw [n] at q
  cases q
  exact x _ rfl
theorem PolyAt.stay {C : Addr} {H H' : Hp} {a : Addr} {ts : Terms} (h : PolyAt C H a ts) (s : Stay H H') : PolyAt C H' a ts := let ⟨dx, r, vs, h1, h2, h3, h4⟩ := h; ⟨dx, r, vs, s _ _ (by intro _ z; cases z) (by intro _ z; cases z) h1, s.tk _ _ h2, h3.tk s.tk, h4⟩
theorem PolyAt.same {C : Addr} {H H' : Hp} {a : Addr} {ts : Terms} (h : PolyAt C H a ts) (s : Same H H') : PolyAt C H' a ts := h.stay (.same s)
section
variable {K : PySem.W.Frag} {mg : Str → Option Value} {C : Addr} {H : Hp} {Q : VK} {a : Addr} {ts : Terms}
end
/-! ### promises -/
/-- v stands for the polynomial with the numbers c: a Poly, or an int -/
def IsVal (C : Addr) (H : Hp) (v : V) (c : Int → Int) (n : Nat) : Prop := (∃ a ts, v = .ref a ∧ PolyAt C H a ts ∧ (∀ k, cof ts k = c k) ∧ ts.length ≤ n) ∨ (∃ i, v = .int i ∧ (∀ k, c k = if k = 0 then i else 0) ∧ 1 ≤ n)
theorem IsVal.same {C : Addr} {H H' : Hp} {v : V} {c : Int → Int} {n : Nat} (h : IsVal C H v c n) (s : Same H H') : IsVal C H' v c n := by
  rcases h with ⟨a, ts, e, ha, r⟩ | h
  · exact .inl ⟨a, ts, e, ha.same s, r⟩
  · exact .inr h
end My

set_option Elab.async false
set_option linter.all false
set_option maxRecDepth 100000
namespace My
open PySem PySem.Spec PyProof.Rows L2
/-! ### for k in d: the dict is locked meanwhile -/
section
variable {σ : L2.St} {H : Hp} {Q : VK} {K : PySem.W.Frag} {td te : TE} {D : Ends} {t tb : TS} {g : TG} {R : It → Hp → Prop}
end
/-! ### promises of the law's defs -/
def BN : Int := 10 ^ 38
def spSomeInt : Sp := fun vs H Q _ => ∃ a, vs = [.ref a] ∧ Bag H a ∧ ∀ (r : Int) H', -BN ≤ r → r ≤ BN → But a H H' → Bag H' a → Q (.int r) H'
end My

set_option Elab.async false
set_option linter.all false
set_option maxRecDepth 100000
set_option maxHeartbeats 2000000
namespace My
open PySem PySem.Spec PyProof.Rows L2
/-! ### a field of an own exception that is held -/
def tFldX (C : Addr) (n : Str) (te : TE) : TE := fun σ H Q => te σ H fun x H1 => ∃ (a dd : Addr) (fs : List (Str × V)) (v : V), x = .ref a ∧ H1 a = some (ExV (.ref C) (some dd) a) ∧ H1 dd = some (.xd fs) ∧ fs.lookup n = some v ∧ Q v H1
section
variable {X : Cx} {C : Addr} {n : Str} {e : Expr} {te : TE} {pos : Pos}
theorem pe_fldX (T : XfC X.K C) (hno : PySem.W.findIn X.K (.ref C) n = some none) (he : PE X e te) (hb : attributeBase e n X.env (eval e X.env) = eval e X.env := by rfl) : PE X (.Attribute e n pos) (tFldX C n te) := by
  refine ⟨fun pins s σ H Q I h => ?_⟩
  refine attr_of hb (thn (he.run pins s σ H _ I h) fun u s1 hh => ?_)
  obtain ⟨x, H1, I1, rx, a, dd, fs, v, ex, ha, hdd, hf, q⟩ := hh
  subst ex
  obtain rfl : u = Value.ref a := rx
  obtain ⟨⟨oe, vs, ea, z, d⟩, _, _⟩ := I1.hok a _ ha
  obtain ⟨z1, z2⟩ := z
  have hx : ObjOk X.prog X.w H1 s1.heap dd (.xd fs) := I1.hok dd _ hdd
  obtain ⟨mA, hns, hr⟩ := hx
  obtain ⟨od, ho, hl⟩ := lookIn_ns hns
  obtain ⟨u, hu, ru⟩ := RelO.some_of (v := v) (o := mA n) (by rw [← hf]; exact hr n)
  have J : PySem.W.InstAt s1.heap a oe C (some od) := ⟨ea, z1, by unfold PySem.W.notCls; rw [d], by rw [z2]; exact ho⟩
  exact HandSPX.exc_get I1.kIn J T.ga T.gg T.exC (PySem.W.findObj_own T.hdC hno rfl (by rw [hl, hu])) (handed_of ru) ⟨v, H1, I1.tok _, ru, q⟩
theorem r_fldX {σ : L2.St} {H : Hp} {Q : VK} (q : te σ H fun x H1 => ∃ (a dd : Addr) (fs : List (Str × V)) (v : V), x = .ref a ∧ H1 a = some (ExV (.ref C) (some dd) a) ∧ H1 dd = some (.xd fs) ∧ fs.lookup n = some v ∧ Q v H1) : tFldX C n te σ H Q := q
end
/-! ### raising an own exception with an own __init__ -/
def spIni (C : Addr) (f : Str) : Sp := fun vs H Q _ => ∃ (a : Addr) (v : V), vs = [.ref a, v] ∧ H a = some (exo a C none) ∧ ∀ dx, H dx = none → dx ≠ a → Q .non (upd (upd H dx (exd dx [(f, v)])) a (exo a C (some dx)))
/-- the facts of such a class; its __init__ keeps one value -/
structure OwnI (P : Program) (w : World) (K : PySem.W.Frag) (mg : Str → Option Value) (base : Heap) (x : Str) (C : Addr) (f : Str) : Prop where
  oex : OexC K C
  ty : ExcTy K C
  fld : XfC K C
  no : PySem.W.findIn K (.ref C) f = some none
  g : mg x = some (.ref C)
  b : PySem.W.subIn K (.ref C) (.type "BaseException") = some true
  t : PySem.W.typeIn K (.ref C) = some (.type "type")
  cs : ∃ cd, PySem.W.clsIn K C = some cd
  ini : ∃ (fI : Addr) (fd : FuncData), PySem.W.findIn K (.ref C) "__init__" = some (some (.ref fI)) ∧ PySem.W.typeIn K (.ref fI) = some (.type "function") ∧ Binds K fd ["self", f] [] ∧ FnOk P w K mg base CX0 1 fI fd ["self", f] (spIni C f)
theorem OwnI.kit {P : Program} {w : World} {K : PySem.W.Frag} {mg : Str → Option Value} {base : Heap} {x f : Str} {C : Addr} {cls : Value} {b : Bool} (h : OwnI P w K mg base x C f) (s : PySem.W.subIn K cls (.ref C) = some b) (ne : (cls == .ref C) = false) : PySem.W.kitOne K cls (.ref C) = some b := by
  obtain ⟨cd, e⟩ := h.cs
  unfold PySem.W.kitOne PySem.W.kitCls
  rw [ne, if_neg Bool.false_ne_true]
  show (if ((PySem.W.clsIn K C).isSome && PySem.W.typeIn K (.ref C) == some (.type "type")) = true then PySem.W.subIn K cls (.ref C) else none) = some b
  rw [e, h.t, if_pos (by simp)]
  exact s
theorem pmk_ownI {X : Cx} {C : Addr} {x f : Str} {e : Expr} {p pos : Pos} {ta : TA} (T : OwnI X.prog X.w X.K X.mg X.base x C f) (hr : Room 2 X.A) (ha : PA X [e] ta) (hg : Gl X x := by rfl) (hdb : (x == ("__debug__" : Str)) = false := by decide)
    (he : starEach (e :: []) X.env = (false, eval e X.env) :: starEach [] X.env := by rfl) (hpl : (backTo pos (starEach [] X.env)).any (·.1) = false := by rfl) : PMk X (.Call (.Name x p) [e] [] pos) (tMkO C (spIni C f) [] ta) := by
  obtain ⟨fI, fd, h1, h2, h3, F⟩ := T.ini
  exact pmk_oex (p := p) (pos := pos) T.oex h1 h2 F hr h3 .nil pass0 hg T.g ha hdb he hpl
section
variable {σ : L2.St} {H : Hp} {C : Addr} {f : Str} {v : V} {Q : XK}
theorem free_updX {H : Hp} {p b : Addr} {o : HO} (h : upd H p o b = none) : H b = none := by
  by_cases e : b = p
  · subst e; rw [upd_same] at h; cases h
  · rwa [upd_ne e] at h
theorem r_mkO {sp : Sp} {ta : TA} (q : ta σ H fun vs H1 => vs.length ≤ 1000 ∧ ∀ a, H1 a = none → sp (.ref a :: (vs ++ [])) (upd H1 a (exo a C none))
    (fun v H2 => v = .non ∧ ∃ (d : Addr) (fs : List (Str × V)), H2 a = some (exo a C (some d)) ∧ H2 d = some (exd d fs) ∧ H1 d = none ∧ Q (.ref C) (some d) (upd (del H2 a) d (.xd fs))) (fun _ _ _ => False)) : tMkO C sp [] ta σ H Q := q
theorem u_mkI (q : ∀ d H', H d = none → Same H H' → H' d = some (.xd [(f, v)]) → Q (.ref C) (some d) H') : [v].length ≤ 1000 ∧ ∀ a, H a = none → spIni C f (.ref a :: ([v] ++ [])) (upd H a (exo a C none))
    (fun v H2 => v = .non ∧ ∃ (d : Addr) (fs : List (Str × V)), H2 a = some (exo a C (some d)) ∧ H2 d = some (exd d fs) ∧ H d = none ∧ Q (.ref C) (some d) (upd (del H2 a) d (.xd fs))) (fun _ _ _ => False) := by
  refine ⟨by simp, fun a na => ⟨a, v, rfl, upd_same, fun dx ndx ne => ⟨rfl, dx, _, upd_same, (upd_ne ne).trans upd_same, free_updX ndx, q dx _ (free_updX ndx) ?_ upd_same⟩⟩⟩
  intro c o e
  have h1 : c ≠ a := ne_of_none e na
  have h2 : c ≠ dx := ne_of_none e (free_updX ndx)
  rw [upd_ne h2]
  show (if c = a then none else _) = _
  rw [if_neg h1, upd_ne h1, upd_ne h2, upd_ne h1]
  exact e
end
end My

set_option Elab.async false
set_option linter.all false
set_option maxRecDepth 100000
namespace My
open PySem PySem.Spec PyProof.Rows L2
/-! ### o.m(k = v, ..), C(k = v, ..): all by name -/
structure KB1 (K : PySem.W.Frag) (fd : FuncData) (ps ks : List Str) : Prop where
  to : ∀ (s : Shared) (u : Value) (ws : List Value), K.In s.heap → ws.length = ks.length → BindsTo s fd ⟨[u], ks.zip ws⟩ (ps.zip (u :: ws))
theorem kb1 {K : PySem.W.Frag} {fd : FuncData} {p0 : Str} {ks : List Str} (h : ∀ (u : Value) (ws : List Value), ws.length = ks.length → bindArgs fd ⟨[u], ks.zip ws⟩ = pure ((p0, u) :: ks.zip ws)) : KB1 K fd (p0 :: ks) ks := ⟨fun _ u ws _ hl => .of_eq (h u ws hl)⟩
section
variable {X : Cx} {C f : Addr} {fd : FuncData} {m x : Str} {k : Nat} {ps ks : List Str} {sp : Sp} {o : Expr} {kws : List Keyword} {p pos apos : Pos} {ta : TE} {tk : TA}
end
end My

set_option Elab.async false
set_option linter.all false
set_option maxRecDepth 100000
set_option maxHeartbeats 2000000
/-! an own error class with an __init__ of its own, made by keyword; made as a value -/
namespace PySem
namespace HandSPX
section
variable {M : Model} {A : Around} {E : Value → Shared → Prop} {h : Heap} {g : Array GenState} {d : Drawn} {t : Nat} {os : OsState}
variable {nm q : Str} {C N : Addr} {bs bm bmB : List Value} {hdct : Bool} {sn : List Str} {sub : List Value} {ab : Bool} {col : Option Bool} {dd : Option Addr} {k0 k1 k2 k3 k5 : Option Value} {B newId initId : String}
theorem check_new_ownK (F : ExcBaseFacts B newId initId bmB) (hT : ∀ X : String, bm.contains (.type X) = bmB.contains (.type X)) {rest : List Value} {kw : List (Str × Value)} {Q : Unit → Shared → Prop}
    (hC : h.get? C = some (excClassObj nm q C N bs bm hdct sn sub ab col dd k0 k1 k2 k3 k5 newId)) (hq : Q () ⟨h, g, d, t, os⟩) : wpAny M A (checkBuiltinCall newId ⟨.ref C :: rest, kw⟩) Q E ⟨h, g, d, t, os⟩ := by
  have hcont : (Value.ref C :: bm).contains (.type B) = true := by rw [List.contains_cons, hT, F.hasB, Bool.or_true]
  have hstar := F.noStar
  simp only [checkBuiltinCall, F.newKind, F.newSplit, F.newRow]
  repeat (first | refine wpAny_loadPart_at hC ?_ | (refine wpAny_isSubtype_exc hC ?_; rw [hcont]) | refine wpAny_staticBase_exc hC ?_ | refine wpAny_madeBy_exc hC ?_ | simp only [bne_self_eq_false, Bool.false_eq_true, if_false] | wp_step)
  exact hq
theorem check_type_callK {rest : List Value} {kw : List (Str × Value)} {Q : Unit → Shared → Prop} (hC : h.get? C = some (excClassObj nm q C N bs bm hdct sn sub ab col dd k0 k1 k2 k3 k5 newId))
    (hq : Q () ⟨h, g, d, t, os⟩) : wpAny M A (checkBuiltinCall "type.__call__" ⟨.ref C :: rest, kw⟩) Q E ⟨h, g, d, t, os⟩ := by
  have f3 := tc_sub
  have hT : (⟨h, g, d, t, os⟩ : Shared).TypeIs (.ref C) "type" := ⟨_, hC, rfl⟩
  simp only [checkBuiltinCall, tc_kind, tc_split]
  repeat (any_goals (first | assumption | with_reducible refine wpAny_loadPart_at hC ?_ | with_reducible refine wpAny_onRaise ?_ | with_reducible refine wpAny_map ?_ | wp_step))
end
section
variable {prog : Program} {w : World} {A : Around} {E : Value → Shared → Prop} {R : Result → Shared → Prop} {h : Heap} {g : Array GenState} {d : Drawn} {t : Nat} {os : OsState}
variable {nm q : Str} {C N : Addr} {bs bm bmB : List Value} {hdct : Bool} {sn : List Str} {sub : List Value} {ab : Bool} {col : Option Bool} {dd : Option Addr} {k0 k1 k2 k3 k5 : Option Value} {B newId initId : String}
theorem new_ownK (F : ExcBaseFacts B newId initId bmB) (hT : ∀ X : String, bm.contains (.type X) = bmB.contains (.type X)) {rest : List Value} {kw : List (Str × Value)}
    (hC : h.get? C = some (excClassObj nm q C N bs bm hdct sn sub ab col dd k0 k1 k2 k3 k5 newId))
    (hq : R (.ok (.ret (.ref (h.objs.size + 1)))) ⟨(h.push { cls := .type "tuple", data := .seq rest.toArray }).push
      { cls := .ref C, data := .fields #[.ref h.objs.size, .none, .none, .none, .bool false, .none] }, g, d, t, os⟩) (hrest : rest.length ≤ sizeLine) :
    codeAny (model prog w) A (.builtin newId ⟨.ref C :: rest, kw⟩) R ⟨h, g, d, t, os⟩ := by
  have hends := F.ends
  have hcB : (Value.ref C :: bm).contains (.type B) = true := by rw [List.contains_cons, hT, F.hasB, Bool.or_true]
  have hcA : (Value.ref C :: bm).contains (.type "AttributeError") = false := by rw [List.contains_cons, hT, F.noAttr]; rfl
  have hcN : (Value.ref C :: bm).contains (.type "NameError") = false := by rw [List.contains_cons, hT, F.noName]; rfl
  refine codeAny_builtinAt F.entry ?_
  unfold Builtin.«BaseException.__new__»
  refine wpAt_bind ?_
  show wpAt _ _ _ (stack >>= _) _ _ _
  refine wpAt_bind (wpAt_stack fun p below => wpAt_of_wpAny ?_)
  wp_walk
  refine wpAt_of_wpAny ?_
  rw [F.owner]
  repeat (first | with_reducible refine wpAny_madeHere_exc F.canon hC ?_ | with_reducible refine wpAny_loadPart_at hC ?_ | (with_reducible refine wpAny_isSubtype_exc hC ?_; first | rw [hcB] | rw [hcA] | rw [hcN]) | wp_step)
  show R _ _
  rw [Heap.size_push]
  exact hq
theorem type_call_ownK (F : ExcBaseFacts B newId initId bmB) (hT : ∀ X : String, bm.contains (.type X) = bmB.contains (.type X)) {rest : List Value} {kw : List (Str × Value)} {fI : Addr} {Q : Fin → Shared → Prop}
    (hC : h.get? C = some (excClassObj nm q C N bs bm hdct sn sub ab col dd k0 k1 k2 k3 k5 newId))
    (hi : W.Looks (model prog w) h (typeLookup (.ref C) "__init__") (some (.ref fI))) (hb : ∀ self, W.Looks (model prog w) h (bindSpecial (.ref fI) self) (.ref fI, [self])) (hrest : rest.length ≤ sizeLine)
    (hq : codeAny (model prog w) A (.call (.ref fI) ⟨.ref (h.objs.size + 1) :: rest, kw⟩)
      (fun r s' => match r with | .ok (.ret v) => v = .none ∧ Q (.done (.ret (.ref (h.objs.size + 1)))) s' | .ok _ => False | .error e => E e s')
      ⟨(h.push (W.kdv_tup rest)).push (excO C h.objs.size), g, d, t, os⟩) :
    wpAny (model prog w) A (Builtin.«type.__call__» ⟨.ref C :: rest, kw⟩) Q E ⟨h, g, d, t, os⟩ := by
  repeat (first | with_reducible refine wpAny_loadPart_at hC ?_ | with_reducible refine wpAny_madeBy_exc hC ?_ | wp_step)
  refine codeAny_call_builtin_code (Code.quiet_builtin _ F.quiet) (check_new_ownK F hT hC ?_)
  refine new_ownK F hT hC ?_ hrest
  show wpAny _ _ _ _ _ _
  have k : ∀ b o, h.get? b = some o → ((h.push (W.kdv_tup rest)).push (excO C h.objs.size)).get? b = some o := fun b o e => Heap.get?_push_of_some _ (Heap.get?_push_of_some _ e)
  have hC₁ := k _ _ hC
  have hget : ((h.push (W.kdv_tup rest)).push (excO C h.objs.size)).get? (h.objs.size + 1) = some (excO C h.objs.size) := by heap_get
  have hcC : (Value.ref C :: bm).contains (.ref C) = true := by simp
  have i1 := hi.keeps k
  have b1 := (hb (.ref (h.objs.size + 1))).keeps k
  unfold isInstance
  repeat (first | with_reducible refine wpAny_loadPart_at hget ?_ | (with_reducible refine wpAny_isSubtype_exc hC₁ ?_; rw [hcC]) | wp_step)
  show wpAny _ _ (typeLookup (.ref C) _) _ _ _
  refine i1.at ?_
  refine wpAny_holding (wpAny_bind (b1.at ?_))
  refine wpAny_bind (wpAny_call (codeAny_mono hq fun r s' z => ?_))
  rcases r with e | (v | _ | _ | _) <;> first | exact z | exact z.elim | skip
  obtain ⟨rfl, z⟩ := z
  first
    | exact wpAny_pure (wpAny_pure z)
    | (wp_walk; exact z)
theorem call_ownK (F : ExcBaseFacts B newId initId bmB) (hT : ∀ X : String, bm.contains (.type X) = bmB.contains (.type X)) {rest : List Value} {kw : List (Str × Value)} {fI : Addr}
    (hC : h.get? C = some (excClassObj nm q C N bs bm hdct sn sub ab col dd k0 k1 k2 k3 k5 newId))
    (hi : W.Looks (model prog w) h (typeLookup (.ref C) "__init__") (some (.ref fI))) (hb : ∀ self, W.Looks (model prog w) h (bindSpecial (.ref fI) self) (.ref fI, [self])) (hrest : rest.length ≤ sizeLine)
    (hq : codeAny (model prog w) (A.under (.builtin "type.__call__" ⟨.ref C :: rest, kw⟩)) (.call (.ref fI) ⟨.ref (h.objs.size + 1) :: rest, kw⟩) (W.InitBack (h.objs.size + 1) R)
      ⟨(h.push (W.kdv_tup rest)).push (excO C h.objs.size), g, d, t, os⟩) :
    codeAny (model prog w) A (.call (.ref C) ⟨rest, kw⟩) R ⟨h, g, d, t, os⟩ := by
  have f1 := tc_lookup
  have f2 := tc_bind (.ref C)
  have hTy : (⟨h, g, d, t, os⟩ : Shared).TypeIs (.ref C) "type" := ⟨_, hC, rfl⟩
  refine codeAny_of_tree ?_
  show wpAny _ _ (callAny (.ref C) _) _ _ _
  repeat (any_goals (first | assumption | with_reducible refine wpAny_loadPart_at hC ?_ | wp_step))
  refine ⟨rfl, ?_⟩
  refine codeAny_call_builtin_at (Code.quiet_builtin _ (by decide +kernel)) entry_typeCall (check_type_callK hC (type_call_ownK F hT hC hi hb hrest ?_))
  refine codeAny_mono hq fun r s' z => ?_
  rcases r with e | (v | _ | _ | _) <;> exact z
end
end HandSPX
end PySem
namespace My
open PySem PySem.Spec PyProof.Rows L2
/-- an error that is made, as a value -/
theorem pe_of_mk {X : Cx} {e : Expr} {t : L2.St → Hp → XK → Prop} (h : PMk X e t) : PE X e (fun σ H Q => t σ H fun cls d H' => ∀ a, H' a = none → Q (.ref a) (upd H' a (ExV cls d a))) := by
  refine ⟨fun pins s σ H Q I q => ?_⟩
  refine wpAny_mono (h pins s σ H _ I q) (fun u s' hu => ?_) fun _ _ x => x
  obtain ⟨a, oe, vs, sI, H', cls, d, rfl, J, k, hne, ha, hz, hd, _, na, os, ag, _, qq⟩ := hu
  have J2 : Inv X pins σ (upd H' a (ExV cls d a)) { sI with heap := s'.heap, toks := sI.toks } := J.laidN k hne na (exV_ok ha hz hd)
  exact ⟨.ref a, _, ⟨J2.ok, os.trans J2.os, ag, J2.base, J2.loc, J2.cell, J2.free, J2.freeC, J2.pin, J2.hok, J2.len⟩, rfl, qq a na⟩
/-- its __init__, called by keyword -/
def OwnKw (P : Program) (w : World) (K : PySem.W.Frag) (mg : Str → Option Value) (base : Heap) (C : Addr) (f : Str) : Prop :=
  ∃ (fI : Addr) (fd : FuncData), PySem.W.findIn K (.ref C) "__init__" = some (some (.ref fI)) ∧ PySem.W.typeIn K (.ref fI) = some (.type "function") ∧ KB1 K fd ["self", f] [f] ∧ FnOk P w K mg base CX0 1 fI fd ["self", f] (spIni C f)
theorem pmk_ownIK {X : Cx} {C : Addr} {x f : Str} {p pos : Pos} {kws : List Keyword} {tk : TA} (T : OwnI X.prog X.w X.K X.mg X.base x C f) (TK : OwnKw X.prog X.w X.K X.mg X.base C f) (hr : Room 2 X.A) (hkw : PK X kws tk) (hg : Gl X x := by rfl) (hdb : (x == ("__debug__" : Str)) = false := by decide)
    (hall : (backToKw pos (keywordEach kws X.env)).all (·.1.isSome) = true := by rfl) (hks : (backToKw pos (keywordEach kws X.env)).filterMap (·.1) = [f] := by rfl)
    (hpl : ((backTo pos (starEach [] X.env)).any (·.1) || (backToKw pos (keywordEach kws X.env)).any (·.1.isNone)) = false := by rfl) : PMk X (.Call (.Name x p) [] kws pos) (tMkO C (spIni C f) [] tk) := by
  obtain ⟨fI, fd, iC, tI, hb, F1⟩ := TK
  intro pins s σ H Q I h
  obtain ⟨nm, q, N, bs, bm, sn, sub, ab, col, dd, k0, k1, k2, k3, k5, hC, hbm⟩ := T.oex.cls
  refine wpAny_Call_Name_kw (ld_glob I hg T.g ?_ hdb)
  refine PySem.W.callWith_KW0 (h₀ := X.base) I.ok.mod.kin T.oex.kC hall (thn (hkw.run pos pins s σ H _ I h) fun us s1 ⟨vs, H1, I1, r1, hz, q1⟩ => ⟨I1.kIn, ?_⟩) hpl
  rw [hks]
  obtain ⟨hp, g, dr, tk', os⟩ := s1
  have hsz : hp.objs.size ≤ hp.objs.size + 1 := Nat.le_succ _
  have hn : H1 (hp.objs.size + 1) = none := I1.hok.fresh hsz
  have hq := q1 (hp.objs.size + 1) hn
  rw [List.append_nil] at hq
  have kk : ∀ b o, hp.get? b = some o → ((hp.push (PySem.W.kdv_tup [])).push (PySem.HandSPX.excO C hp.objs.size)).get? b = some o := fun b o e => Heap.get?_push_of_some _ (Heap.get?_push_of_some _ e)
  have hget : ((hp.push (PySem.W.kdv_tup [])).push (PySem.HandSPX.excO C hp.objs.size)).get? (hp.objs.size + 1) = some (PySem.HandSPX.excO C hp.objs.size) := by heap_get
  have I2 : Inv X pins σ (upd H1 (hp.objs.size + 1) (exo (hp.objs.size + 1) C none)) ⟨(hp.push (PySem.W.kdv_tup [])).push (PySem.HandSPX.excO C hp.objs.size), g, dr, tk', os⟩ :=
    I1.laid (t' := tk') (a := hp.objs.size + 1) (o := exo (hp.objs.size + 1) C none) (h' := (hp.push (PySem.W.kdv_tup [])).push (PySem.HandSPX.excO C hp.objs.size)) kk hsz (exo_ok hget)
  have r2 : Vals (V.ref (hp.objs.size + 1) :: vs) (Value.ref (hp.objs.size + 1) :: us) := .cons rfl r1
  have hl0 := F1.len _ _ _ _ hq
  have hl : us.length = [f].length := by
    have e := r1.length
    simp only [List.length_cons, List.length_nil] at hl0 ⊢
    omega
  have hbt : BindsTo ⟨(hp.push (PySem.W.kdv_tup [])).push (PySem.HandSPX.excO C hp.objs.size), g, dr, tk', os⟩ fd ⟨[Value.ref (hp.objs.size + 1)], [f].zip us⟩ ((["self", f] : List Str).zip (Value.ref (hp.objs.size + 1) :: us)) := by
    have z := hb.to ⟨(hp.push (PySem.W.kdv_tup [])).push (PySem.HandSPX.excO C hp.objs.size), g, dr, tk', os⟩ (Value.ref (hp.objs.size + 1)) us I2.kIn hl
    exact z
  refine wpAny_call (PySem.HandSPX.call_ownK F.excBase_ValueError (fun Y => PySem.HandSPX.refsVE_contains Y bm hbm) (I1.kIn _ _ hC) (PySem.W.looks_findIn I1.kIn iC) (fun self => PySem.W.bind_fn I1.kIn self tI) (by simp [sizeLine_eq])
    (codeAny_mono (F1.run _ X.stack _ _ ⟨[Value.ref (hp.objs.size + 1)], [f].zip us⟩ (Value.ref (hp.objs.size + 1) :: us) _ _ (fun _ _ _ => False) (hr.make C [] ([f].zip us)) (I2.env0.make C [] ([f].zip us)) hbt r2 hq) fun r s' hq' => ?_))
  cases r with
  | error er => exact (pass0 (X := X)) pins σ _ _ er s' I2 hq'
  | ok fl =>
    cases fl with
    | ret u =>
      obtain ⟨v, H2, os2, bare2, un2, hok2, rv, ev, d, fs, ea, ed, hd1, q2⟩ := hq'
      subst ev
      obtain ⟨h2, g2, d2, t2, os'⟩ := s'
      exact ⟨rv, mk_end (raises_own T.oex.exC T.oex.tyC) I1 hsz kk un2 hok2 os2 bare2 ea ed hd1 q2⟩
    | next => exact False.elim hq'
    | brk => exact False.elim hq'
    | cont => exact False.elim hq'
/-- a reading closed under what follows -/
def tMo (ta : TA) : TA := fun σ H Q => ∃ Q0 : List V → Hp → Prop, ta σ H Q0 ∧ ∀ vs H', Q0 vs H' → Q vs H'
theorem pa_mo {X : Cx} {es : List Expr} {ta : TA} (h : PA X es ta) : PA X es (tMo ta) := ⟨fun pos pins s σ H Q I ⟨Q0, q, m⟩ => wpAny_mono (h.run pos pins s σ H Q0 I q) (fun us s' ⟨vs, H', I', r, q'⟩ => ⟨vs, H', I', r, m vs H' q'⟩) fun _ _ x => x⟩
theorem pk_mo {X : Cx} {kws : List Keyword} {ta : TA} (h : PK X kws ta) : PK X kws (tMo ta) := ⟨fun pos pins s σ H Q I ⟨Q0, q, m⟩ => wpAny_mono (h.run pos pins s σ H Q0 I q) (fun us s' ⟨vs, H', I', r, q'⟩ => ⟨vs, H', I', r, m vs H' q'⟩) fun _ _ x => x⟩
/-- an own error with an __init__ of its own, made as a value -/
def tMkV (C : Addr) (f : Str) (ta : TA) : TE := fun σ H Q => ta σ H fun vs H1 => ∃ v, vs = [v] ∧ ∀ d H' x, H1 d = none → Same H1 H' → H' d = some (.xd [(f, v)]) → H' x = none → Q (.ref x) (upd H' x (ExV (.ref C) (some d) x))
theorem mkV_of {σ : L2.St} {H : Hp} {C : Addr} {f : Str} {ta : TA} {Q : VK} (h : tMkV C f ta σ H Q) : tMkO C (spIni C f) [] (tMo ta) σ H fun cls d H' => ∀ a, H' a = none → Q (.ref a) (upd H' a (ExV cls d a)) := by
  refine ⟨_, h, fun vs H1 ⟨v, e, h⟩ => ?_⟩
  subst e
  exact u_mkI (Q := fun cls d H' => ∀ a, H' a = none → Q (.ref a) (upd H' a (ExV cls d a))) fun d H' nd s hd x nx => h d H' x nd s hd nx
theorem pe_mkV {X : Cx} {C : Addr} {x f : Str} {e : Expr} {p pos : Pos} {ta : TA} (T : OwnI X.prog X.w X.K X.mg X.base x C f) (hr : Room 2 X.A) (ha : PA X [e] ta) (hg : Gl X x := by rfl) (hdb : (x == ("__debug__" : Str)) = false := by decide)
    (he : starEach (e :: []) X.env = (false, eval e X.env) :: starEach [] X.env := by rfl) (hpl : (backTo pos (starEach [] X.env)).any (·.1) = false := by rfl) : PE X (.Call (.Name x p) [e] [] pos) (tMkV C f ta) :=
  ⟨fun pins s σ H Q I h => (pe_of_mk (pmk_ownI T hr (pa_mo ha) hg hdb he hpl)).run pins s σ H Q I (mkV_of h)⟩
theorem pe_mkVK {X : Cx} {C : Addr} {x f : Str} {p pos : Pos} {kws : List Keyword} {tk : TA} (T : OwnI X.prog X.w X.K X.mg X.base x C f) (TK : OwnKw X.prog X.w X.K X.mg X.base C f) (hr : Room 2 X.A) (hkw : PK X kws tk) (hg : Gl X x := by rfl) (hdb : (x == ("__debug__" : Str)) = false := by decide)
    (hall : (backToKw pos (keywordEach kws X.env)).all (·.1.isSome) = true := by rfl) (hks : (backToKw pos (keywordEach kws X.env)).filterMap (·.1) = [f] := by rfl)
    (hpl : ((backTo pos (starEach [] X.env)).any (·.1) || (backToKw pos (keywordEach kws X.env)).any (·.1.isNone)) = false := by rfl) : PE X (.Call (.Name x p) [] kws pos) (tMkV C f tk) :=
  ⟨fun pins s σ H Q I h => (pe_of_mk (pmk_ownIK T TK hr (pk_mo hkw) hg hdb hall hks hpl)).run pins s σ H Q I (mkV_of h)⟩
theorem r_mkV {σ : L2.St} {H : Hp} {C : Addr} {f : Str} {ta : TA} {Q : VK} (q : ta σ H fun vs H1 => ∃ v, vs = [v] ∧ ∀ d H' x, H1 d = none → Same H1 H' → H' d = some (.xd [(f, v)]) → H' x = none → Q (.ref x) (upd H' x (ExV (.ref C) (some d) x))) : tMkV C f ta σ H Q := q
end My

set_option Elab.async false
set_option linter.all false
set_option maxRecDepth 100000
set_option maxHeartbeats 2000000
namespace My
open PySem PySem.Spec PyProof.Rows L2
/-- what isinstance asks of a class -/
def KitA (K : PySem.W.Frag) (A : Addr) : Prop := ∀ (cls : Value) (b : Bool), PySem.W.subIn K cls (.ref A) = some b → (cls == .ref A) = false → PySem.W.kitOne K cls (.ref A) = some b
theorem mat_at {K : PySem.W.Frag} {AS : List Addr} (h : matB K AS = true) {i j : Nat} {Ai Aj : Addr} (hi : AS[i]? = some Ai) (hj : AS[j]? = some Aj) : PySem.W.subIn K (.ref Ai) (.ref Aj) = some (decide (i = j)) := by
  obtain ⟨li, ei⟩ := List.getElem?_eq_some_iff.mp hi
  obtain ⟨lj, ej⟩ := List.getElem?_eq_some_iff.mp hj
  have h1 := of_decide_eq_true (List.all_eq_true.mp (List.all_eq_true.mp h i (List.mem_range.mpr li)) j (List.mem_range.mpr lj))
  rwa [List.getD_eq_getElem?_getD, List.getD_eq_getElem?_getD, hi, hj] at h1
theorem mat_kit {K : PySem.W.Frag} {AS : List Addr} (h : matB K AS = true) (hk : ∀ A ∈ AS, KitA K A) {i j : Nat} {Ai Aj : Addr} (hi : AS[i]? = some Ai) (hj : AS[j]? = some Aj) : PySem.W.kitOne K (.ref Ai) (.ref Aj) = some (decide (i = j)) := by
  by_cases e : i = j
  · subst e
    rw [hi] at hj
    cases hj
    rw [decide_eq_true rfl]
    exact kit_own
  · have h1 := mat_at h hi hj
    refine hk Aj (List.mem_of_getElem? hj) _ _ h1 ?_
    have : Ai ≠ Aj := fun z => by
      subst z
      have h2 := mat_at h hi hi
      rw [h1, decide_eq_false e, decide_eq_true rfl] at h2
      cases h2
    simp [this]
theorem ang_kit {K : PySem.W.Frag} {B : Addr} {AS : List Addr} (h : angB K B AS = true) (hk : ∀ A ∈ AS, KitA K A) (hB : KitA K B) {A : Addr} (hA : A ∈ AS) : PySem.W.kitOne K (.ref A) (.ref B) = some true ∧ PySem.W.kitOne K (.ref B) (.ref A) = some false := by
  have h1 := List.all_eq_true.mp h A hA
  rw [Bool.and_eq_true, decide_eq_true_iff, decide_eq_true_iff] at h1
  have ne : A ≠ B := fun z => by
    subst z
    have := h1.1.symm.trans h1.2
    cases this
  exact ⟨hB _ _ h1.1 (by simp [ne]), hk A hA _ _ h1.2 (by simp [ne.symm])⟩
theorem val_kit {K : PySem.W.Frag} {AS : List Addr} (h : valB K AS = true) {A : Addr} (hA : A ∈ AS) : PySem.W.kitOne K (.ref A) (.type "ValueError") = some true :=
  kit_ownB (of_decide_eq_true (List.all_eq_true.mp h A hA))
section
variable {K : PySem.W.Frag} {H : Hp}
theorem dp5 : ∀ bs : List Bool, DpAll K H (bs.map V.bl) (bs.map PyData.bool)
  | [] => .nil
  | c :: bs => .cons (.bl c) (dp5 bs)
theorem eqv5 : ∀ bs : List Bool, PyData.eqvAll (bs.map PyData.bool) (bs.map PyData.bool) = true
  | [] => by simp [PyData.eqvAll]
  | c :: bs => by
    rw [List.map_cons, PyData.eqvAll, eqv5 bs]
    cases c <;> simp [PyData.eqv]
theorem shaped5 (bs : List Bool) : SeqAt.shaped (.list (bs.map PyData.bool)) = true := (Lay.list (n := 1) fun x hx => by
  obtain ⟨c, _, rfl⟩ := List.mem_map.mp hx
  exact ⟨by simp [PyData.canLay0], by simp [PyData.depth]⟩).shaped (by decide)
theorem r_ne5 {Q : VK} {l m : Addr} {bs : List Bool} (h : H l = some (.lst (bs.map V.bl))) (h' : H m = some (.lst (bs.map V.bl))) (q : Q (.bl false) H) : rNeD K (.ref l) (.ref m) H Q :=
  ⟨_, _, .lst (.of h) (dp5 bs), .lst (.of h') (dp5 bs), shaped5 bs, shaped5 bs, by rw [PyData.eqv, eqv5]; exact q⟩
end
theorem atI_get {xs : List V} {i : Nat} {v : V} (h : xs[i]? = some v) : atI xs (i : Int) = some v := by
  have := (List.getElem?_eq_some_iff.mp h).1
  unfold atI ixN
  rw [if_pos (by omega), if_pos (by omega)]
  exact h
end My

set_option Elab.async false
set_option linter.all false
set_option maxRecDepth 100000
set_option maxHeartbeats 4000000

namespace My
open PySem PySem.Spec PyProof.Rows L2
section
local macro_rules | `(tactic| walk_at "isi") => `(tactic| (first
  | (with_reducible refine r_is_int_int ?_)
  | (with_reducible refine r_is_int_bool ?_)
  | (with_reducible refine r_is_int_str ?_)
  | (with_reducible refine r_is_int_list ?_)
  | (with_reducible refine r_is_int_tuple ?_)
  | (with_reducible refine r_is_bool_int ?_)
  | (with_reducible refine r_is_bool_bool ?_)
  | (with_reducible refine r_is_bool_str ?_)
  | (with_reducible refine r_is_bool_list ?_)
  | (with_reducible refine r_is_bool_tuple ?_)
  | (with_reducible refine r_is_str_int ?_)
  | (with_reducible refine r_is_str_bool ?_)
  | (with_reducible refine r_is_str_str ?_)
  | (with_reducible refine r_is_str_list ?_)
  | (with_reducible refine r_is_str_tuple ?_)
  | ((with_reducible refine r_is_list_int (xs := ?xx) ?hh ?_); (case hh => walk_at "hp"))
  | ((with_reducible refine r_is_list_bool (xs := ?xx) ?hh ?_); (case hh => walk_at "hp"))
  | ((with_reducible refine r_is_list_str (xs := ?xx) ?hh ?_); (case hh => walk_at "hp"))
  | ((with_reducible refine r_is_list_list (xs := ?xx) ?hh ?_); (case hh => walk_at "hp"))
  | ((with_reducible refine r_is_list_tuple (xs := ?xx) ?hh ?_); (case hh => walk_at "hp"))
  | ((with_reducible refine r_is_tuple_int (xs := ?xx) ?hh ?_); (case hh => walk_at "hp"))
  | ((with_reducible refine r_is_tuple_bool (xs := ?xx) ?hh ?_); (case hh => walk_at "hp"))
  | ((with_reducible refine r_is_tuple_str (xs := ?xx) ?hh ?_); (case hh => walk_at "hp"))
  | ((with_reducible refine r_is_tuple_list (xs := ?xx) ?hh ?_); (case hh => walk_at "hp"))
  | ((with_reducible refine r_is_tuple_tuple (xs := ?xx) ?hh ?_); (case hh => walk_at "hp"))
  | (with_reducible refine r_is_NoneType_int ?_)
  | (with_reducible refine r_is_NoneType_bool ?_)
  | (with_reducible refine r_is_NoneType_str ?_)
  | (with_reducible refine r_is_NoneType_list ?_)
  | (with_reducible refine r_is_NoneType_tuple ?_)))
local macro_rules | `(tactic| walk_at "ne") => `(tactic| first | assumption | (refine Ne.symm ?_; assumption) | exact Bag.ne (by assumption) (by assumption) | exact ne_of_none (by assumption) (by assumption))
local macro_rules | `(tactic| walk_at "hp") => `(tactic| (first
  | assumption
  | exact upd_same
  | (refine h_keep ?_ (by assumption); walk_at "hp")
  | (refine (upd_ne (by walk_at "ne")).trans ?_; walk_at "hp")
  | (refine Same.at (by assumption) ?_; walk_at "hp")
  | (refine But.at (by assumption) (by walk_at "ne") ?_; walk_at "hp")
  | (refine But2.at (by assumption) (by walk_at "ne") (by walk_at "ne") ?_; walk_at "hp")))
local macro_rules | `(tactic| walk_at "side") => `(tactic| first | assumption | omega | (refine ⟨?_, ?_⟩ <;> first | assumption | omega | decide) | decide | (refine ⟨by decide, by decide, by decide⟩) | (left; refine ⟨?_, ?_⟩ <;> first | omega | decide) | (right; refine ⟨?_, ?_⟩ <;> first | omega | decide) | (simp; done))
local macro_rules | `(tactic| walk_at "cond") => `(tactic| first | assumption | exact rfl | omega | (simp only [List.length_cons, List.length_nil]; omega) | decide +kernel)
local macro_rules | `(tactic| walk_at "s") => `(tactic| (first
  | ((with_reducible refine r_var (v := ?vv) ?ee ?_); (case ee => exact rfl))
  | (with_reducible refine r_c ?_)
  | (with_reducible refine r_op ?_)
  | (with_reducible refine r_un ?_)
  | (with_reducible refine r_rI0 ?_)
  | ((with_reducible refine r_rI ?cc ?_); (case cc => walk_at "side"))
  | (with_reducible refine r_rU ?_)
  | (with_reducible refine r_eqI ?_)
  | (with_reducible refine r_neI ?_)
  | (with_reducible refine r_eqB ?_)
  | (with_reducible refine r_neB ?_)
  | (with_reducible refine r_eqS ?_)
  | (with_reducible refine r_neS ?_)
  | ((with_reducible refine r_eq ?ee ?_); (case ee => exact rfl))
  | ((with_reducible refine r_ne ?ee ?_); (case ee => exact rfl))
  | ((with_reducible refine r_ixL (v := ?vv) (xs := ?xx) ?hh ?ee ?_); (case hh => (refine SqL.of ?_; walk_at "hp")); (case ee => exact rfl))
  | (with_reducible refine r_cb ?_)
  | (with_reducible refine r_call ?_)
  | (with_reducible refine r_cons ?_)
  | (with_reducible refine r_nil ?_)
  | (with_reducible refine r_lst ?_)
  | (with_reducible refine r_tup ?_)
  | ((with_reducible refine r_new ?cc ?_); (case cc => walk_at "side"))
  | (with_reducible refine r_exbl ?_)
  | (with_reducible refine r_exint ?_)
  | (with_reducible refine r_exint2 ?_)
  | (with_reducible refine r_exblL ?_)
  | (with_reducible refine r_ex2 ?_)
  | (with_reducible refine r_test ?_)
  | (with_reducible refine r_tB ?_)
  | (with_reducible refine r_not ?_)
  | (with_reducible refine r_and ?_)
  | (with_reducible refine r_or ?_)
  | (with_reducible refine r_andV ?_)
  | (with_reducible refine r_orV ?_)
  | (with_reducible refine r_notV ?_)
  | (with_reducible refine r_tif ?_)
  | (with_reducible refine r_iteT ?_)
  | (with_reducible refine r_iteNT ?_)
  | (with_reducible refine r_iteNF ?_)
  | (with_reducible refine r_iteF ?_)
  | (with_reducible refine r_seq ?_)
  | (with_reducible refine r_next ?_)
  | (with_reducible refine r_brk ?_)
  | (with_reducible refine r_cont ?_)
  | (with_reducible refine r_asg ?_)
  | (with_reducible refine r_gname ?_)
  | (with_reducible refine r_ret ?_)
  | (with_reducible refine r_retN ?_)
  | (with_reducible refine r_drop ?_)
  | (with_reducible refine r_if ?_)
  | ((with_reducible refine r_aug (x := ?xx) ?ee ?_); (case ee => exact rfl))
  | (with_reducible refine r_ipI ?_)
  | (with_reducible refine r_augS ?_)
  | (with_reducible refine r_gsub ?_)
  | ((with_reducible refine r_setL (xs := ?xx) (m := ?mm) ?hh ?ee ?_); (case hh => walk_at "hp"); (case ee => exact rfl))
  | (with_reducible refine r_par ?_)
  | (with_reducible refine r_bm ?_)
  | ((with_reducible refine r_tyL (xs := ?xx) ?hh ?_); (case hh => walk_at "hp"))
  | ((with_reducible refine r_append (xs := ?xx) ?hh ?ll ?_); (case hh => walk_at "hp"); (case ll => walk_at "side"))
  | (walk_at "isi")
  | (with_reducible refine r_for ?_)
  | (with_reducible refine r_iList ?_)
  | (with_reducible refine r_iTup ?_)
  | (with_reducible refine r_iR1 ?_)
  | (with_reducible refine r_iR2 ?_)
  | (with_reducible refine r_lc ?_)
  | (with_reducible refine r_yes ?_)
  | ((with_reducible refine r_lenS ?ll ?_); (case ll => walk_at "side"))
  | (with_reducible refine r_leS ?_)
  | (with_reducible refine r_chain ?_)
  | (with_reducible refine r_tM1 ?_)
  | (with_reducible refine r_exS ?_)
  | ((with_reducible refine r_tupL (xs := ?xx) ?hh ?_); (case hh => walk_at "hp"))
  | ((with_reducible refine r_listL (xs := ?xx) ?hh ?_); (case hh => walk_at "hp"))
  | ((with_reducible refine r_listT (xs := ?xx) ?hh ?_); (case hh => walk_at "hp"))
  | ((with_reducible refine r_ixT (v := ?vv) (xs := ?xx) ?hh ?ee ?_); (case hh => (refine SqT.of ?_; walk_at "hp")); (case ee => exact rfl))
  | (with_reducible refine r_sl ?_)
  | (with_reducible refine r_nopart ?_)
  | (with_reducible refine r_part ?_)
  | (with_reducible refine r_exI ?_)
  | ((with_reducible refine r_slL (xs := ?xx) ?hh ?_); (case hh => first | assumption | (refine SqL.of ?_; walk_at "hp") | (refine Same.seq (by assumption) (by assumption))))
  | ((with_reducible refine r_cat (xs := ?xx) (zs := ?zz) ?hh ?ii ?ll ?_); (case hh => walk_at "hp"); (case ii => walk_at "hp"); (case ll => walk_at "side"))
  | ((with_reducible refine r_lenL (xs := ?xx) ?hh ?_); (case hh => walk_at "hp"))
  | ((with_reducible refine r_lenT (xs := ?xx) ?hh ?_); (case hh => walk_at "hp"))
  | ((with_reducible refine r_gTup (xs := ?xx) ?hh ?ll ?_); (case hh => walk_at "hp"); (case ll => exact rfl))
  | (with_reducible refine r_gCons ?_)
  | (with_reducible refine r_gNil ?_)
  | ((with_reducible refine r_iteDT ?cc ?_); (case cc => walk_at "cond"))
  | ((with_reducible refine r_iteDF ?cc ?_); (case cc => walk_at "cond"))
  | ((with_reducible refine r_iteNDT ?cc ?_); (case cc => walk_at "cond"))
  | ((with_reducible refine r_iteNDF ?cc ?_); (case cc => walk_at "cond"))
  ))
local macro_rules | `(tactic| walk_at "go") => `(tactic| repeat (walk_at "s"))
open PySem PySem.Spec PyProof.Rows L2
section
variable {P : Program} {w : World} {K : PySem.W.Frag} {mg : Str → Option Value} {base : Heap}

theorem ok_l_bag_of {f : Addr} {fd : FuncData} (F : Fun K "_law_bag_of" "_law_bag_of" s_l_bag_of f fd) (B : Bl mg) : FnOk P w K mg base CX0 1 f fd ["_law_cell"] spBagOf := by
  refine F.ok sc_l_bag_of (fun vs H Q E h => ?_) (fun cdv A outer s H vs Q E hr h => ?_)
  · obtain ⟨c, rfl, _⟩ := h
    rfl
  · obtain ⟨c, rfl, k⟩ := h
    refine ⟨_, (pss_one (ps_ret (pe_lst (pa_cons (pe_callB (call_max2 rfl) (by rfl) B.b_max (by decide +kernel) (pa_cons pe_int (pa_cons (pe_op op_sub (pv 0) (pe_op op_pow pe_int pe_int)) pa_nil))) (pa_cons (pe_op op_add (pe_op op_mod (pe_callTy call_intI (by rfl) B.b_int (by decide +kernel) (pa_cons (pv 0) pa_nil)) pe_int) pe_int) (pa_cons (pe_op op_mod (pe_callTy call_intI (by rfl) B.b_int (by decide +kernel) (pa_cons (pe_op op_fdivW (pv 0) pe_int) pa_nil)) pe_int) pa_nil)))))), ?_⟩
    walk_at "go"
    intro p np
    exact k p _ np (Same.new0 np) ⟨_, _, _, upd_same, by omega, by omega, by omega⟩
theorem ok_l_pick {f : Addr} {fd : FuncData} (F : Fun K "_law_pick" "_law_pick" s_l_pick f fd) (B : Bl mg) : FnOk P w K mg base CX0 1 f fd ["_law_bag", "_law_many"] spPick := by
  refine F.ok sc_l_pick (fun vs H Q E h => ?_) (fun cdv A outer s H vs Q E hr h => ?_)
  · obtain ⟨a, n, rfl, _⟩ := h
    rfl
  · obtain ⟨a, n, rfl, ⟨x, y, z, hb, y0, y1, z0⟩, n0, n1, k⟩ := h
    have nl : n.natAbs.log2 < 9000 := log_small (Nat.lt_of_le_of_lt (by omega : n.natAbs ≤ 1000000) (by decide +kernel))
    refine ⟨_, (pss_cons (ps_if (pt_cmpR op_gt (pe_ix (ix_listK (K := K)) (pv 0) pe_int (fun _ _ => rfl)) pe_int (nomark _))
    (pss_cons (ps_set (i := 2) sc_l_pick.nd rfl (.inl rfl) (pe_op op_modN (pe_callTy call_intI (by rfl) B.b_int (by decide +kernel) (pa_cons (pe_ix (ix_listK (K := K)) (pv 0) pe_int (fun _ _ => rfl)) pa_nil)) (pv 1)))
    (pss_cons (ps_asg (pe_op op_fdivW (pe_ix (ix_listK (K := K)) (pv 0) pe_int (fun _ _ => rfl)) (pv 1)) (pg_sub (pv 0) pe_int set_list))
    (pss_one (ps_ret (pv 2)))))
    pss_nil)
    (pss_cons (ps_augS (pv 0) pe_int pg_list pe_int ip_add set_list)
    (pss_cons (ps_asg (pe_op op_mod (pe_callTy call_intI (by rfl) B.b_int (by decide +kernel) (pa_cons (pe_op op_add (pe_op op_mul (pe_ix (ix_listK (K := K)) (pv 0) pe_int (fun _ _ => rfl)) pe_int) (pe_op op_mul (pe_ix (ix_listK (K := K)) (pv 0) pe_int (fun _ _ => rfl)) pe_int)) pa_nil)) pe_int) (pg_sub (pv 0) pe_int set_list))
    (pss_one (ps_ret (pe_op op_modN (pe_callTy call_intI (by rfl) B.b_int (by decide +kernel) (pa_cons (pe_op op_fdiv (pe_op op_mod (pe_callTy call_intI (by rfl) B.b_int (by decide +kernel) (pa_cons (pe_op op_mul (pe_ix (ix_listK (K := K)) (pv 0) pe_int (fun _ _ => rfl)) (pe_ix (ix_listK (K := K)) (pv 0) pe_int (fun _ _ => rfl))) pa_nil)) pe_int) pe_int) pa_nil)) (pv 1))))))), ?_⟩
    walk_at "go"
    refine r_iteD (fun hx => ?_) (fun hx => ?_)
    · walk_at "go"
      refine k _ _ (Int.fmod_nonneg_of_pos _ n0) (Int.fmod_lt_of_pos _ n0) (But.self (But.refl _ _)) ⟨_, _, _, upd_same, y0, y1, z0⟩
    · walk_at "go"
      refine k _ _ (Int.fmod_nonneg_of_pos _ n0) (Int.fmod_lt_of_pos _ n0) (But.self (But.self (But.refl _ _))) ⟨_, _, _, upd_same, by omega, by omega, by omega⟩
def spGreat : Sp := fun vs H Q _ => ∃ (a : Addr) (d : Int), vs = [.ref a, .int d] ∧ Bag H a ∧ 0 ≤ d ∧ d ≤ 60 ∧ ∀ (r : Int) H', 0 ≤ r → r < 10 ^ d.toNat → But a H H' → Bag H' a → Q (.int r) H'
theorem ok_l_great_int {f : Addr} {fd : FuncData} (F : Fun K "_law_great_int" "_law_great_int" s_l_great_int f fd) (B : Bl mg) (h_l_pick : Has P w K mg base "_law_pick" 1 ["_law_bag", "_law_many"] spPick) : FnOk P w K mg base CX0 2 f fd ["_law_bag", "_law_digits"] spGreat := by
  refine F.ok sc_l_great_int (fun vs H Q E h => ?_) (fun cdv A outer s H vs Q E hr h => ?_)
  · obtain ⟨a, n, rfl, _⟩ := h
    rfl
  · obtain ⟨a, d, rfl, ba, d0, d1, k⟩ := h
    refine ⟨_, (pss_cons (ps_set (i := 2) sc_l_great_int.nd rfl (.inl rfl) pe_int)
    (pss_cons (ps_for PassesOwn.never rfl (pi_range1 (by rfl) B.b_range (pa_cons pe_int pa_nil)) (pg_name (i := 3) sc_l_great_int.nd rfl (.inl rfl))
    (pss_one (ps_set (i := 2) sc_l_great_int.nd rfl (.inl rfl) (pe_op op_add (pe_op op_mulW (pv 2) (pe_op op_pow pe_int pe_int)) (pe_callH h_l_pick (hr.mono (by first | decide | omega)) (pa_cons (pv 0) (pa_cons (pe_op op_pow pe_int pe_int) pa_nil)))))))
    (pss_cons (ps_set (i := 4) sc_l_great_int.nd rfl (.inl rfl) pe_int)
    (pss_cons (ps_for PassesOwn.never rfl (pi_range1 (by rfl) B.b_range (pa_cons (pv 1) pa_nil)) (pg_name (i := 3) sc_l_great_int.nd rfl (.inl rfl))
    (pss_one (ps_set (i := 4) sc_l_great_int.nd rfl (.inl rfl) (pe_op op_mul (pv 4) pe_int))))
    (pss_one (ps_ret (pe_op op_modN (pe_callTy call_intI (by rfl) B.b_int (by decide +kernel) (pa_cons (pv 2) pa_nil)) (pv 4)))))))), ?_⟩
    walk_at "go"
    refine u_for1 ?_ (fun i σ H' => ∃ (t : Int) (y : Option V), σ = [some (.ref a), some (.int d), some (.int t), y, none] ∧ 0 ≤ t ∧ t < 10 ^ (6 * i) ∧ But a H H' ∧ Bag H' a) ?_ ?_ ?_
    · omega
    · exact ⟨0, none, rfl, by omega, by decide, But.refl _ _, ba⟩
    · rintro i σ H' hi ⟨t, y, rfl, t0, t1, bu, bg⟩
      have t2 : t.natAbs < 2 ^ 100000 := by
        have h1 : (10 : Int) ^ (6 * i) ≤ 10 ^ 42 := ipow_mono (by decide) (by omega)
        refine Nat.lt_of_le_of_lt (m := 10 ^ 42) (by omega) (by decide +kernel)
      have mw : CMulW t (10 ^ Int.toNat 6) := mulW_of t2 (by decide +kernel)
      walk_at "go"
      refine u_pick bg (by decide) (by decide) fun r H2 r0 r1 bu2 b2 => ?_
      walk_at "go"
      refine ⟨_, some (.int i), rfl, ?_, ?_, bu.trans bu2, b2⟩
      · have : 0 ≤ t * 10 ^ Int.toNat 6 := Int.mul_nonneg t0 (by decide)
        omega
      · rw [show 6 * (i + 1) = 6 * i + 6 by omega, Int.pow_add]
        rw [show (10 : Int) ^ Int.toNat 6 = 1000000 by decide] at *
        rw [show (10 : Int) ^ 6 = 1000000 by decide]
        generalize (10 : Int) ^ (6 * i) = X at *
        omega
    · rintro σ H' ⟨t, y, rfl, t0, t1, bu, bg⟩
      walk_at "go"
      refine u_for1 ?_ (fun i σ H2 => ∃ (y : Option V), σ = [some (.ref a), some (.int d), some (.int t), y, some (.int (10 ^ i))] ∧ H2 = H') ?_ ?_ ?_
      · omega
      · exact ⟨y, rfl, rfl⟩
      · rintro i σ H2 hi ⟨y, rfl, rfl⟩
        walk_at "go"
        exact ⟨some (.int i), by rw [Int.pow_succ]; rfl, rfl⟩
      · rintro σ H2 ⟨y, rfl, rfl⟩
        have hp : (0 : Int) < 10 ^ d.toNat := Int.pow_pos (by decide)
        have hp2 : (10 : Int) ^ d.toNat ≠ 0 := by omega
        walk_at "go"
        exact k _ _ (Int.fmod_nonneg_of_pos _ hp) (Int.fmod_lt_of_pos _ hp) bu bg
end

set_option Elab.async false
set_option linter.all false
set_option maxRecDepth 100000
set_option maxHeartbeats 4000000

open PySem PySem.Spec PyProof.Rows L2
def spIsI0 : Sp := fun vs H Q _ => ∃ n : Int, vs = [.int n] ∧ Q (.bl true) H
def spTitle : Sp := fun vs H Q _ => ∃ a, vs = [.ref a] ∧ Bag H a ∧ ∀ (z : Str) H', But a H H' → Bag H' a → z.length ≤ 100 → Q (.str z) H'
/-- a sign of a text -/
theorem text_at {z : Str} {m : Nat} (hl : z.cps.toList.length = m) {n : Int} (h0 : 0 ≤ n) (h1 : n < m) : ∃ c, atI z.cps.toList n = some c := by
  have h2 : n.toNat < z.cps.toList.length := by rw [hl]; omega
  refine ⟨z.cps.toList[n.toNat], ?_⟩
  unfold atI ixN
  rw [if_pos h0, if_pos (by rw [hl]; omega)]
  exact List.getElem?_eq_getElem h2
theorem signs_len : ∀ l : List Nat, (l.map (fun c => (sign1 c).length)).sum = l.length := by
  intro l
  induction l with
  | nil => rfl
  | cons c r ih => rw [List.map_cons, List.sum_cons, ih, List.length_cons]; exact Nat.add_comm _ _
theorem joined_len (cs : List Nat) : (Txt.join ("" : Str) (cs.map sign1)).length = cs.length := by
  show (Txt.join ("" : Str) (cs.map sign1)).cps.size = _
  rw [← Array.length_toList, join_signs (by decide +kernel)]
section
variable {P : Program} {w : World} {K : PySem.W.Frag} {mg : Str → Option Value} {base : Heap} {A_NotShort A_TooGreat A_InvalidWords A_UnknownName : Addr}

theorem ok_NotShort_init {f : Addr} {fd : FuncData} (oex : OexC K A_NotShort) (no : PySem.W.findIn K (.ref A_NotShort) "amount" = some none) (F : Fun K "__init__" "NotShort.__init__" s_NotShort___init__ f fd) : FnOk P w K mg base CX0 1 f fd ["self", "amount"] (spIni A_NotShort "amount") := by
  refine F.ok sc_NotShort___init__ (fun vs H Q E h => ?_) (fun cdv A outer s H vs Q E hr h => ?_)
  · obtain ⟨a, v, rfl, _⟩ := h
    rfl
  · obtain ⟨a, v, rfl, ha, k⟩ := h
    refine ⟨_, (pss_one (ps_ost (pv 0) (pv 1))), ?_⟩
    refine r_var rfl ?_
    refine r_var rfl ?_
    refine ⟨a, A_NotShort, rfl, oex, no, .inl ⟨ha, fun dx ndx ne => ?_⟩⟩
    exact k dx ndx ne
theorem ok_TooGreat_init {f : Addr} {fd : FuncData} (oex : OexC K A_TooGreat) (no : PySem.W.findIn K (.ref A_TooGreat) "number" = some none) (F : Fun K "__init__" "TooGreat.__init__" s_TooGreat___init__ f fd) : FnOk P w K mg base CX0 1 f fd ["self", "number"] (spIni A_TooGreat "number") := by
  refine F.ok sc_TooGreat___init__ (fun vs H Q E h => ?_) (fun cdv A outer s H vs Q E hr h => ?_)
  · obtain ⟨a, v, rfl, _⟩ := h
    rfl
  · obtain ⟨a, v, rfl, ha, k⟩ := h
    refine ⟨_, (pss_one (ps_ost (pv 0) (pv 1))), ?_⟩
    refine r_var rfl ?_
    refine r_var rfl ?_
    refine ⟨a, A_TooGreat, rfl, oex, no, .inl ⟨ha, fun dx ndx ne => ?_⟩⟩
    exact k dx ndx ne
theorem ok_InvalidWords_init {f : Addr} {fd : FuncData} (oex : OexC K A_InvalidWords) (no : PySem.W.findIn K (.ref A_InvalidWords) "spot" = some none) (F : Fun K "__init__" "InvalidWords.__init__" s_InvalidWords___init__ f fd) : FnOk P w K mg base CX0 1 f fd ["self", "spot"] (spIni A_InvalidWords "spot") := by
  refine F.ok sc_InvalidWords___init__ (fun vs H Q E h => ?_) (fun cdv A outer s H vs Q E hr h => ?_)
  · obtain ⟨a, v, rfl, _⟩ := h
    rfl
  · obtain ⟨a, v, rfl, ha, k⟩ := h
    refine ⟨_, (pss_one (ps_ost (pv 0) (pv 1))), ?_⟩
    refine r_var rfl ?_
    refine r_var rfl ?_
    refine ⟨a, A_InvalidWords, rfl, oex, no, .inl ⟨ha, fun dx ndx ne => ?_⟩⟩
    exact k dx ndx ne
theorem ok_UnknownName_init {f : Addr} {fd : FuncData} (oex : OexC K A_UnknownName) (no : PySem.W.findIn K (.ref A_UnknownName) "name" = some none) (F : Fun K "__init__" "UnknownName.__init__" s_UnknownName___init__ f fd) : FnOk P w K mg base CX0 1 f fd ["self", "name"] (spIni A_UnknownName "name") := by
  refine F.ok sc_UnknownName___init__ (fun vs H Q E h => ?_) (fun cdv A outer s H vs Q E hr h => ?_)
  · obtain ⟨a, v, rfl, _⟩ := h
    rfl
  · obtain ⟨a, v, rfl, ha, k⟩ := h
    refine ⟨_, (pss_one (ps_ost (pv 0) (pv 1))), ?_⟩
    refine r_var rfl ?_
    refine r_var rfl ?_
    refine ⟨a, A_UnknownName, rfl, oex, no, .inl ⟨ha, fun dx ndx ne => ?_⟩⟩
    exact k dx ndx ne
theorem ok_l_is_int {f : Addr} {fd : FuncData} (F : Fun K "_law_is_int" "_law_is_int" s_l_is_int f fd) (B : Bl mg) : FnOk P w K mg base CX0 1 f fd ["_law_thing"] spIsI0 := by
  refine F.ok sc_l_is_int (fun vs H Q E h => ?_) (fun cdv A outer s H vs Q E hr h => ?_)
  · obtain ⟨c, rfl, _⟩ := h
    rfl
  · obtain ⟨c, rfl, k⟩ := h
    refine ⟨_, (pss_one (ps_ret (pe_and (pe_callB (call_isiKK (K := K)) (by rfl) B.b_isinstance (by decide +kernel) (pa_cons (pv 0) (pa_cons (pe_bltn (v := .ty "int") (by rfl) B.b_int (by decide +kernel) rfl) pa_nil))) (pe_one (pe_not (pe_callB (call_isiKK (K := K)) (by rfl) B.b_isinstance (by decide +kernel) (pa_cons (pv 0) (pa_cons (pe_bltn (v := .ty "bool") (by rfl) B.b_bool (by decide +kernel) rfl) pa_nil)))))))), ?_⟩
    walk_at "go"
    exact k
theorem ok_l_some_int {f : Addr} {fd : FuncData} (F : Fun K "_law_some_int" "_law_some_int" s_l_some_int f fd) (h_l_pick : Has P w K mg base "_law_pick" 1 ["_law_bag", "_law_many"] spPick) (h_l_great_int : Has P w K mg base "_law_great_int" 2 ["_law_bag", "_law_digits"] spGreat) : FnOk P w K mg base CX0 3 f fd ["_law_bag"] spSomeInt := by
  refine F.ok sc_l_some_int (fun vs H Q E h => ?_) (fun cdv A outer s H vs Q E hr h => ?_)
  · obtain ⟨a, rfl, _⟩ := h
    rfl
  · obtain ⟨a, rfl, ba, k⟩ := h
    have hBN : (1000 : Int) ≤ BN := by decide +kernel
    refine ⟨_, (pss_cons (ps_set (i := 1) sc_l_some_int.nd rfl (.inl rfl) (pe_callH h_l_pick (hr.mono (by first | decide | omega)) (pa_cons (pv 0) (pa_cons pe_int pa_nil))))
    (pss_cons (ps_set (i := 2) sc_l_some_int.nd rfl (.inl rfl) (pe_op op_sub pe_int (pe_op op_mul pe_int (pe_callH h_l_pick (hr.mono (by first | decide | omega)) (pa_cons (pv 0) (pa_cons pe_int pa_nil))))))
    (pss_cons (ps_if (pt_cmpR op_lt (pv 1) pe_int (nomark _))
    (pss_one (ps_ret (pv 2)))
    pss_nil)
    (pss_cons (ps_if (pt_cmpR op_eq (pv 1) pe_int (nomark _))
    (pss_one (ps_ret (pe_op op_mul (pv 2) (pe_callH h_l_pick (hr.mono (by first | decide | omega)) (pa_cons (pv 0) (pa_cons pe_int pa_nil))))))
    pss_nil)
    (pss_cons (ps_if (pt_cmpR op_eq (pv 1) pe_int (nomark _))
    (pss_one (ps_ret (pe_op op_mul (pv 2) (pe_callH h_l_pick (hr.mono (by first | decide | omega)) (pa_cons (pv 0) (pa_cons pe_int pa_nil))))))
    pss_nil)
    (pss_one (ps_ret (pe_op op_mul (pv 2) (pe_callH h_l_great_int (hr.mono (by first | decide | omega)) (pa_cons (pv 0) (pa_cons pe_int pa_nil))))))))))), ?_⟩
    walk_at "go"
    refine u_pick ba (by decide) (by decide) fun m H1 m0 m1 bu1 b1 => ?_
    walk_at "go"
    refine u_pick b1 (by decide) (by decide) fun r H2 r0 r1 bu2 b2 => ?_
    walk_at "go"
    have bu := bu1.trans bu2
    refine r_iteD (fun h1 => ?_) (fun h1 => ?_)
    · walk_at "go"
      exact k _ H2 (by omega) (by omega) bu b2
    · walk_at "go"
      refine r_iteD (fun h2 => ?_) (fun h2 => ?_)
      · walk_at "go"
        refine u_pick b2 (by decide) (by decide) fun q H3 q0 q1 bu3 b3 => ?_
        walk_at "go"
        refine k _ H3 ?_ ?_ (bu.trans bu3) b3
        · rcases (by omega : r = 0 ∨ r = 1) with rfl | rfl <;> omega
        · rcases (by omega : r = 0 ∨ r = 1) with rfl | rfl <;> omega
      · walk_at "go"
        refine r_iteD (fun h3 => ?_) (fun h3 => ?_)
        · walk_at "go"
          refine u_pick b2 (by decide) (by decide) fun q H3 q0 q1 bu3 b3 => ?_
          walk_at "go"
          refine k _ H3 ?_ ?_ (bu.trans bu3) b3
          · rcases (by omega : r = 0 ∨ r = 1) with rfl | rfl <;> omega
          · rcases (by omega : r = 0 ∨ r = 1) with rfl | rfl <;> omega
        · walk_at "go"
          refine ⟨a, 38, rfl, b2, by decide, by decide, fun q H3 q0 q1 bu3 b3 => ?_⟩
          have q2 : q < BN := q1
          walk_at "go"
          refine k _ H3 ?_ ?_ (bu.trans bu3) b3
          · rcases (by omega : r = 0 ∨ r = 1) with rfl | rfl <;> omega
          · rcases (by omega : r = 0 ∨ r = 1) with rfl | rfl <;> omega
theorem ok_l_some_title {f : Addr} {fd : FuncData} (F : Fun K "_law_some_title" "_law_some_title" s_l_some_title f fd) (B : Bl mg) (h_l_pick : Has P w K mg base "_law_pick" 1 ["_law_bag", "_law_many"] spPick) : FnOk P w K mg base CX0 2 f fd ["_law_bag"] spTitle := by
  refine F.ok sc_l_some_title (fun vs H Q E h => ?_) (fun cdv A outer s H vs Q E hr h => ?_)
  · obtain ⟨a, rfl, _⟩ := h
    rfl
  · obtain ⟨a, rfl, ba, k⟩ := h
    refine ⟨_, (pss_cons (ps_set (i := 1) sc_l_some_title.nd rfl (.inr rfl) pe_str)
    (pss_one (ps_ret (pe_join pe_str (pe_lc (own := [("_law_k", 2)]) rfl sc_l_some_title.nd (pi_range1 (by rfl) B.b_range (pa_cons (pe_op op_add pe_int (pe_callH h_l_pick (hr.mono (by first | decide | omega)) (pa_cons (pv 0) (pa_cons pe_int pa_nil)))) pa_nil)) (blkOk_by (N := ["_law_bag", "_law_letters", "_law_k"]) (sc := defScope s_l_some_title) (by decide +kernel)) (fun _ _ _ _ _ => (pg_name (i := 2) sc_l_some_title.nd rfl (.inl rfl))) (fun _ _ _ _ _ => pts_nil) (fun _ _ _ _ _ => (pe_ix ix_str (pv 1) (pe_callH h_l_pick (hr.mono (by first | decide | omega)) (pa_cons (pv 0) (pa_cons pe_int pa_nil))) (fun _ _ => rfl)))))))), ?_⟩
    walk_at "go"
    refine u_pick ba (by omega) (by omega) fun r H1 r0 r1 bu1 b1 => ?_
    walk_at "go"
    refine u_lc1 (by omega) (fun D i acc H' => (∃ cs : List Nat, acc = (cs.map sign1).map V.str ∧ cs.length = i) ∧ But a H1 H' ∧ Bag H' a) ?_ ?_ ?_
    · exact fun D hD => ⟨⟨[], rfl, rfl⟩, But.new (But.refl _ _) hD, b1.keep hD⟩
    · rintro D i acc H' hD hi hacc ⟨⟨cs, rfl, hl⟩, bu, bg⟩
      have nDa : D ≠ a := b1.ne hD
      walk_at "go"
      refine ⟨rfl, ?_⟩
      walk_at "go"
      refine u_pick bg (by omega) (by omega) fun r2 H2 p0 p1 bu2 b2 => ?_
      obtain ⟨c, hc1, hc2, hc3⟩ := letter_at p0 p1
      refine r_ixS (by decide +kernel) hc1 ?_
      have hD2 : H2 D = _ := bu2 _ _ nDa hacc
      refine u_push hD2 (by rw [List.length_map, List.length_map]; omega) ⟨⟨cs ++ [c], ?_, ?_⟩, But.put (bu.trans bu2) hD, b2.upd nDa.symm⟩
      · rw [List.map_append, List.map_append]
        rfl
      · rw [List.length_append, List.length_singleton, hl]
    · rintro D acc H' hD hacc ⟨⟨cs, rfl, hl⟩, bu, bg⟩
      refine ⟨_, D, cs.map sign1, rfl, rfl, .inl (.of hacc), ?_, ?_⟩
      · rw [List.map_map, List.length_map]
        show (cs.map (fun c => (sign1 c).length)).sum + _ ≤ _
        rw [signs_len, show (("" : Str)).length = 0 by decide +kernel, hl]
        have : Int.toNat (1 + r) ≤ 8 := by omega
        exact Nat.le_trans (by omega : _ ≤ 100) (by decide +kernel)
      · refine k _ _ (bu1.trans bu) bg ?_
        rw [joined_len, hl]
        omega
end

set_option Elab.async false
set_option linter.all false
set_option maxRecDepth 100000
set_option maxHeartbeats 8000000
set_option pp.deepTerms false
set_option pp.deepTerms.threshold 12
set_option pp.maxSteps 1200

open PySem PySem.Spec PyProof.Rows L2 RT
/-- an own error without fields -/
def PlA (H : Hp) (v : V) (A : Addr) : Prop := ∃ p, v = .ref p ∧ H p = some (ExO (.ref A) p)
/-- an own error with one field -/
def FlA (H : Hp) (v : V) (A : Addr) (f : Str) (u : V) : Prop := ∃ p d, v = .ref p ∧ H p = some (ExV (.ref A) (some d) p) ∧ H d = some (.xd [(f, u)])
theorem PlA.same {H H' : Hp} {v : V} {A : Addr} (h : PlA H v A) (s : Same H H') : PlA H' v A := let ⟨p, e, q⟩ := h; ⟨p, e, s _ _ q⟩
theorem FlA.same {H H' : Hp} {v u : V} {A : Addr} {f : Str} (h : FlA H v A f u) (s : Same H H') : FlA H' v A f u := let ⟨p, d, e, q, r⟩ := h; ⟨p, d, e, s _ _ q, s _ _ r⟩
/-- what the twenty-one objects are -/
structure Objs (AS : List Addr) (H : Hp) (vs : List V) (x y z : Int) (n : Str) : Prop where
  len : vs.length = 21
  pl : ∀ (i : Nat) (v : V) (A : Addr), i < 17 → vs[i]? = some v → AS[i]? = some A → PlA H v A
  f17 : ∀ v A, vs[17]? = some v → AS[17]? = some A → FlA H v A "amount" (.int x)
  f18 : ∀ v A, vs[18]? = some v → AS[18]? = some A → FlA H v A "number" (.int y)
  f19 : ∀ v A, vs[19]? = some v → AS[19]? = some A → FlA H v A "spot" (.int z)
  f20 : ∀ v A, vs[20]? = some v → AS[20]? = some A → FlA H v A "name" (.str n)
theorem Objs.same {AS : List Addr} {H H' : Hp} {vs : List V} {x y z : Int} {n : Str} (h : Objs AS H vs x y z n) (s : Same H H') : Objs AS H' vs x y z n :=
  ⟨h.len, fun i v A a b c => (h.pl i v A a b c).same s, fun v A a b => (h.f17 v A a b).same s, fun v A a b => (h.f18 v A a b).same s, fun v A a b => (h.f19 v A a b).same s, fun v A a b => (h.f20 v A a b).same s⟩
/-- which of the classes a thing is of -/
def tru21 (i : Nat) : List V := (List.range 21).map fun j => V.bl (decide (i = j))
def spTruths (K : PySem.W.Frag) (AS : List Addr) : Sp := fun vs H Q _ => ∃ (v : V) (t : Value) (i : Nat), vs = [v] ∧ (∀ H', Same H H' → TyE K H' v t) ∧ (∀ j A, AS[j]? = some A → PySem.W.kitOne K t (.ref A) = some (decide (i = j))) ∧ ∀ l H', Same H H' → H' l = some (.lst (tru21 i)) → Q (.ref l) H'
def spObjects (AS : List Addr) : Sp := fun vs H Q _ => ∃ (t n : Str) (la : Addr) (x y z : Int), vs = [.str t, .ref la, .str n] ∧ H la = some (.lst [.int x, .int y, .int z]) ∧ ∀ l vs H', Same H H' → H' l = some (.lst vs) → Objs AS H' vs x y z n → Q (.ref l) H'
section
variable {P : Program} {w : World} {K : PySem.W.Frag} {mg : Str → Option Value} {base : Heap} {A_InvalidPoly A_InvalidDivisor A_InvalidNumber A_InvalidOrder A_InvalidOrders A_InvalidName A_InvalidProgram A_InvalidCount A_InvalidIndex A_InvalidClaim A_NotAChain A_NoGreatest A_NoProgram A_NoneLeft A_Refused A_NothingToUndo A_InvalidCommand A_NotShort A_TooGreat A_InvalidWords A_UnknownName : Addr}

local macro_rules | `(tactic| walk_at "s") => `(tactic| (first
  | (with_reducible refine r_mkV ?_)
  ))
theorem ok_l_truths {f : Addr} {fd : FuncData} (F : Fun K "_law_truths" "_law_truths" s_l_truths f fd) (B : Bl mg) (bIsi : mg "isinstance" = none) (X_InvalidPoly : OwnX K mg "InvalidPoly" A_InvalidPoly) (X_InvalidDivisor : OwnX K mg "InvalidDivisor" A_InvalidDivisor) (X_InvalidNumber : OwnX K mg "InvalidNumber" A_InvalidNumber) (X_InvalidOrder : OwnX K mg "InvalidOrder" A_InvalidOrder) (X_InvalidOrders : OwnX K mg "InvalidOrders" A_InvalidOrders) (X_InvalidName : OwnX K mg "InvalidName" A_InvalidName) (X_InvalidProgram : OwnX K mg "InvalidProgram" A_InvalidProgram) (X_InvalidCount : OwnX K mg "InvalidCount" A_InvalidCount) (X_InvalidIndex : OwnX K mg "InvalidIndex" A_InvalidIndex) (X_InvalidClaim : OwnX K mg "InvalidClaim" A_InvalidClaim) (X_NotAChain : OwnX K mg "NotAChain" A_NotAChain) (X_NoGreatest : OwnX K mg "NoGreatest" A_NoGreatest) (X_NoProgram : OwnX K mg "NoProgram" A_NoProgram) (X_NoneLeft : OwnX K mg "NoneLeft" A_NoneLeft) (X_Refused : OwnX K mg "Refused" A_Refused) (X_NothingToUndo : OwnX K mg "NothingToUndo" A_NothingToUndo) (X_InvalidCommand : OwnX K mg "InvalidCommand" A_InvalidCommand) (XI_NotShort : OwnI P w K mg base "NotShort" A_NotShort "amount") (XI_TooGreat : OwnI P w K mg base "TooGreat" A_TooGreat "number") (XI_InvalidWords : OwnI P w K mg base "InvalidWords" A_InvalidWords "spot") (XI_UnknownName : OwnI P w K mg base "UnknownName" A_UnknownName "name") : FnOk P w K mg base CX0 1 f fd ["_law_thing"] (spTruths K [A_InvalidPoly, A_InvalidDivisor, A_InvalidNumber, A_InvalidOrder, A_InvalidOrders, A_InvalidName, A_InvalidProgram, A_InvalidCount, A_InvalidIndex, A_InvalidClaim, A_NotAChain, A_NoGreatest, A_NoProgram, A_NoneLeft, A_Refused, A_NothingToUndo, A_InvalidCommand, A_NotShort, A_TooGreat, A_InvalidWords, A_UnknownName]) := by
  refine F.ok sc_l_truths (fun vs H Q E h => ?_) (fun cdv A outer s H vs Q E hr h => ?_)
  · obtain ⟨v, t, i, rfl, _⟩ := h
    rfl
  · obtain ⟨v, t, i, rfl, ty, hk, k⟩ := h
    refine ⟨_, (pss_cons (ps_set (i := 1) sc_l_truths.nd rfl (.inl rfl) (pe_lst (pa_cons (pe_callB (call_isiEK (K := K)) (by rfl) B.b_isinstance (by decide +kernel) (pa_cons (pv 0) (pa_cons (pe_glob (v := .ref A_InvalidPoly) rfl X_InvalidPoly.g rfl) pa_nil))) (pa_cons (pe_callB (call_isiEK (K := K)) (by rfl) B.b_isinstance (by decide +kernel) (pa_cons (pv 0) (pa_cons (pe_glob (v := .ref A_InvalidDivisor) rfl X_InvalidDivisor.g rfl) pa_nil))) (pa_cons (pe_callB (call_isiEK (K := K)) (by rfl) B.b_isinstance (by decide +kernel) (pa_cons (pv 0) (pa_cons (pe_glob (v := .ref A_InvalidNumber) rfl X_InvalidNumber.g rfl) pa_nil))) pa_nil)))))
    (pss_cons (ps_set (i := 1) sc_l_truths.nd rfl (.inl rfl) (pe_op op_cat (pv 1) (pe_lst (pa_cons (pe_callB (call_isiEK (K := K)) (by rfl) B.b_isinstance (by decide +kernel) (pa_cons (pv 0) (pa_cons (pe_glob (v := .ref A_InvalidOrder) rfl X_InvalidOrder.g rfl) pa_nil))) (pa_cons (pe_callB (call_isiEK (K := K)) (by rfl) B.b_isinstance (by decide +kernel) (pa_cons (pv 0) (pa_cons (pe_glob (v := .ref A_InvalidOrders) rfl X_InvalidOrders.g rfl) pa_nil))) pa_nil)))))
    (pss_cons (ps_set (i := 1) sc_l_truths.nd rfl (.inl rfl) (pe_op op_cat (pv 1) (pe_lst (pa_cons (pe_callB (call_isiEK (K := K)) (by rfl) B.b_isinstance (by decide +kernel) (pa_cons (pv 0) (pa_cons (pe_glob (v := .ref A_InvalidName) rfl X_InvalidName.g rfl) pa_nil))) (pa_cons (pe_callB (call_isiEK (K := K)) (by rfl) B.b_isinstance (by decide +kernel) (pa_cons (pv 0) (pa_cons (pe_glob (v := .ref A_InvalidProgram) rfl X_InvalidProgram.g rfl) pa_nil))) pa_nil)))))
    (pss_cons (ps_set (i := 1) sc_l_truths.nd rfl (.inl rfl) (pe_op op_cat (pv 1) (pe_lst (pa_cons (pe_callB (call_isiEK (K := K)) (by rfl) B.b_isinstance (by decide +kernel) (pa_cons (pv 0) (pa_cons (pe_glob (v := .ref A_InvalidCount) rfl X_InvalidCount.g rfl) pa_nil))) (pa_cons (pe_callB (call_isiEK (K := K)) (by rfl) B.b_isinstance (by decide +kernel) (pa_cons (pv 0) (pa_cons (pe_glob (v := .ref A_InvalidIndex) rfl X_InvalidIndex.g rfl) pa_nil))) pa_nil)))))
    (pss_cons (ps_set (i := 1) sc_l_truths.nd rfl (.inl rfl) (pe_op op_cat (pv 1) (pe_lst (pa_cons (pe_callB (call_isiEK (K := K)) (by rfl) B.b_isinstance (by decide +kernel) (pa_cons (pv 0) (pa_cons (pe_glob (v := .ref A_InvalidClaim) rfl X_InvalidClaim.g rfl) pa_nil))) (pa_cons (pe_callB (call_isiEK (K := K)) (by rfl) B.b_isinstance (by decide +kernel) (pa_cons (pv 0) (pa_cons (pe_glob (v := .ref A_NotAChain) rfl X_NotAChain.g rfl) pa_nil))) (pa_cons (pe_callB (call_isiEK (K := K)) (by rfl) B.b_isinstance (by decide +kernel) (pa_cons (pv 0) (pa_cons (pe_glob (v := .ref A_NoGreatest) rfl X_NoGreatest.g rfl) pa_nil))) pa_nil))))))
    (pss_cons (ps_set (i := 1) sc_l_truths.nd rfl (.inl rfl) (pe_op op_cat (pv 1) (pe_lst (pa_cons (pe_callB (call_isiEK (K := K)) (by rfl) B.b_isinstance (by decide +kernel) (pa_cons (pv 0) (pa_cons (pe_glob (v := .ref A_NoProgram) rfl X_NoProgram.g rfl) pa_nil))) (pa_cons (pe_callB (call_isiEK (K := K)) (by rfl) B.b_isinstance (by decide +kernel) (pa_cons (pv 0) (pa_cons (pe_glob (v := .ref A_NoneLeft) rfl X_NoneLeft.g rfl) pa_nil))) (pa_cons (pe_callB (call_isiEK (K := K)) (by rfl) B.b_isinstance (by decide +kernel) (pa_cons (pv 0) (pa_cons (pe_glob (v := .ref A_Refused) rfl X_Refused.g rfl) pa_nil))) pa_nil))))))
    (pss_cons (ps_set (i := 1) sc_l_truths.nd rfl (.inl rfl) (pe_op op_cat (pv 1) (pe_lst (pa_cons (pe_callB (call_isiEK (K := K)) (by rfl) B.b_isinstance (by decide +kernel) (pa_cons (pv 0) (pa_cons (pe_glob (v := .ref A_NothingToUndo) rfl X_NothingToUndo.g rfl) pa_nil))) (pa_cons (pe_callB (call_isiEK (K := K)) (by rfl) B.b_isinstance (by decide +kernel) (pa_cons (pv 0) (pa_cons (pe_glob (v := .ref A_InvalidCommand) rfl X_InvalidCommand.g rfl) pa_nil))) pa_nil)))))
    (pss_cons (ps_set (i := 1) sc_l_truths.nd rfl (.inl rfl) (pe_op op_cat (pv 1) (pe_lst (pa_cons (pe_callB (call_isiEK (K := K)) (by rfl) B.b_isinstance (by decide +kernel) (pa_cons (pv 0) (pa_cons (pe_glob (v := .ref A_NotShort) rfl XI_NotShort.g rfl) pa_nil))) (pa_cons (pe_callB (call_isiEK (K := K)) (by rfl) B.b_isinstance (by decide +kernel) (pa_cons (pv 0) (pa_cons (pe_glob (v := .ref A_TooGreat) rfl XI_TooGreat.g rfl) pa_nil))) (pa_cons (pe_callB (call_isiEK (K := K)) (by rfl) B.b_isinstance (by decide +kernel) (pa_cons (pv 0) (pa_cons (pe_glob (v := .ref A_InvalidWords) rfl XI_InvalidWords.g rfl) pa_nil))) pa_nil))))))
    (pss_one (ps_ret (pe_op op_cat (pv 1) (pe_lst (pa_cons (pe_callB (call_isiEK (K := K)) (by rfl) B.b_isinstance (by decide +kernel) (pa_cons (pv 0) (pa_cons (pe_glob (v := .ref A_UnknownName) rfl XI_UnknownName.g rfl) pa_nil))) pa_nil))))))))))))), ?_⟩
    walk_at "go"
    refine r_isiE' (b := decide (i = 0)) (.own A_InvalidPoly) (ty _ (Same.refl H)) (hk 0 _ rfl) ?_
    walk_at "go"
    refine r_isiE' (b := decide (i = 1)) (.own A_InvalidDivisor) (ty _ (Same.refl H)) (hk 1 _ rfl) ?_
    walk_at "go"
    refine r_isiE' (b := decide (i = 2)) (.own A_InvalidNumber) (ty _ (Same.refl H)) (hk 2 _ rfl) ?_
    walk_at "go"
    intro l0 n0
    have s0 := (Same.refl H).trans (Same.new0 (o := .lst [V.bl (decide (i = 0)), V.bl (decide (i = 1)), V.bl (decide (i = 2))]) n0)
    have e0 : upd H l0 (.lst [V.bl (decide (i = 0)), V.bl (decide (i = 1)), V.bl (decide (i = 2))]) l0 = some (.lst [V.bl (decide (i = 0)), V.bl (decide (i = 1)), V.bl (decide (i = 2))]) := upd_same
    generalize upd H l0 (.lst [V.bl (decide (i = 0)), V.bl (decide (i = 1)), V.bl (decide (i = 2))]) = H0 at *
    walk_at "go"
    refine r_isiE' (b := decide (i = 3)) (.own A_InvalidOrder) (ty _ s0) (hk 3 _ rfl) ?_
    walk_at "go"
    refine r_isiE' (b := decide (i = 4)) (.own A_InvalidOrders) (ty _ s0) (hk 4 _ rfl) ?_
    walk_at "go"
    intro l1 n1
    have s1 := s0.trans (Same.new0 (o := .lst [V.bl (decide (i = 3)), V.bl (decide (i = 4))]) n1)
    have e1 : upd H0 l1 (.lst [V.bl (decide (i = 3)), V.bl (decide (i = 4))]) l1 = some (.lst [V.bl (decide (i = 3)), V.bl (decide (i = 4))]) := upd_same
    have f1 := h_keep e0 n1 (o := .lst [V.bl (decide (i = 3)), V.bl (decide (i = 4))])
    generalize upd H0 l1 (.lst [V.bl (decide (i = 3)), V.bl (decide (i = 4))]) = H1 at *
    walk_at "go"
    intro l2 n2
    have s2 := s1.trans (Same.new0 (o := .lst ([V.bl (decide (i = 0)), V.bl (decide (i = 1)), V.bl (decide (i = 2))] ++ [V.bl (decide (i = 3)), V.bl (decide (i = 4))])) n2)
    have e2 : upd H1 l2 (.lst ([V.bl (decide (i = 0)), V.bl (decide (i = 1)), V.bl (decide (i = 2))] ++ [V.bl (decide (i = 3)), V.bl (decide (i = 4))])) l2 = some (.lst [V.bl (decide (i = 0)), V.bl (decide (i = 1)), V.bl (decide (i = 2)), V.bl (decide (i = 3)), V.bl (decide (i = 4))]) := upd_same
    generalize upd H1 l2 (.lst ([V.bl (decide (i = 0)), V.bl (decide (i = 1)), V.bl (decide (i = 2))] ++ [V.bl (decide (i = 3)), V.bl (decide (i = 4))])) = H2 at *
    walk_at "go"
    refine r_isiE' (b := decide (i = 5)) (.own A_InvalidName) (ty _ s2) (hk 5 _ rfl) ?_
    walk_at "go"
    refine r_isiE' (b := decide (i = 6)) (.own A_InvalidProgram) (ty _ s2) (hk 6 _ rfl) ?_
    walk_at "go"
    intro l3 n3
    have s3 := s2.trans (Same.new0 (o := .lst [V.bl (decide (i = 5)), V.bl (decide (i = 6))]) n3)
    have e3 : upd H2 l3 (.lst [V.bl (decide (i = 5)), V.bl (decide (i = 6))]) l3 = some (.lst [V.bl (decide (i = 5)), V.bl (decide (i = 6))]) := upd_same
    have f3 := h_keep e2 n3 (o := .lst [V.bl (decide (i = 5)), V.bl (decide (i = 6))])
    generalize upd H2 l3 (.lst [V.bl (decide (i = 5)), V.bl (decide (i = 6))]) = H3 at *
    walk_at "go"
    intro l4 n4
    have s4 := s3.trans (Same.new0 (o := .lst ([V.bl (decide (i = 0)), V.bl (decide (i = 1)), V.bl (decide (i = 2)), V.bl (decide (i = 3)), V.bl (decide (i = 4))] ++ [V.bl (decide (i = 5)), V.bl (decide (i = 6))])) n4)
    have e4 : upd H3 l4 (.lst ([V.bl (decide (i = 0)), V.bl (decide (i = 1)), V.bl (decide (i = 2)), V.bl (decide (i = 3)), V.bl (decide (i = 4))] ++ [V.bl (decide (i = 5)), V.bl (decide (i = 6))])) l4 = some (.lst [V.bl (decide (i = 0)), V.bl (decide (i = 1)), V.bl (decide (i = 2)), V.bl (decide (i = 3)), V.bl (decide (i = 4)), V.bl (decide (i = 5)), V.bl (decide (i = 6))]) := upd_same
    generalize upd H3 l4 (.lst ([V.bl (decide (i = 0)), V.bl (decide (i = 1)), V.bl (decide (i = 2)), V.bl (decide (i = 3)), V.bl (decide (i = 4))] ++ [V.bl (decide (i = 5)), V.bl (decide (i = 6))])) = H4 at *
    walk_at "go"
    refine r_isiE' (b := decide (i = 7)) (.own A_InvalidCount) (ty _ s4) (hk 7 _ rfl) ?_
    walk_at "go"
    refine r_isiE' (b := decide (i = 8)) (.own A_InvalidIndex) (ty _ s4) (hk 8 _ rfl) ?_
    walk_at "go"
    intro l5 n5
    have s5 := s4.trans (Same.new0 (o := .lst [V.bl (decide (i = 7)), V.bl (decide (i = 8))]) n5)
    have e5 : upd H4 l5 (.lst [V.bl (decide (i = 7)), V.bl (decide (i = 8))]) l5 = some (.lst [V.bl (decide (i = 7)), V.bl (decide (i = 8))]) := upd_same
    have f5 := h_keep e4 n5 (o := .lst [V.bl (decide (i = 7)), V.bl (decide (i = 8))])
    generalize upd H4 l5 (.lst [V.bl (decide (i = 7)), V.bl (decide (i = 8))]) = H5 at *
    walk_at "go"
    intro l6 n6
    have s6 := s5.trans (Same.new0 (o := .lst ([V.bl (decide (i = 0)), V.bl (decide (i = 1)), V.bl (decide (i = 2)), V.bl (decide (i = 3)), V.bl (decide (i = 4)), V.bl (decide (i = 5)), V.bl (decide (i = 6))] ++ [V.bl (decide (i = 7)), V.bl (decide (i = 8))])) n6)
    have e6 : upd H5 l6 (.lst ([V.bl (decide (i = 0)), V.bl (decide (i = 1)), V.bl (decide (i = 2)), V.bl (decide (i = 3)), V.bl (decide (i = 4)), V.bl (decide (i = 5)), V.bl (decide (i = 6))] ++ [V.bl (decide (i = 7)), V.bl (decide (i = 8))])) l6 = some (.lst [V.bl (decide (i = 0)), V.bl (decide (i = 1)), V.bl (decide (i = 2)), V.bl (decide (i = 3)), V.bl (decide (i = 4)), V.bl (decide (i = 5)), V.bl (decide (i = 6)), V.bl (decide (i = 7)), V.bl (decide (i = 8))]) := upd_same
    generalize upd H5 l6 (.lst ([V.bl (decide (i = 0)), V.bl (decide (i = 1)), V.bl (decide (i = 2)), V.bl (decide (i = 3)), V.bl (decide (i = 4)), V.bl (decide (i = 5)), V.bl (decide (i = 6))] ++ [V.bl (decide (i = 7)), V.bl (decide (i = 8))])) = H6 at *
    walk_at "go"
    refine r_isiE' (b := decide (i = 9)) (.own A_InvalidClaim) (ty _ s6) (hk 9 _ rfl) ?_
    walk_at "go"
    refine r_isiE' (b := decide (i = 10)) (.own A_NotAChain) (ty _ s6) (hk 10 _ rfl) ?_
    walk_at "go"
    refine r_isiE' (b := decide (i = 11)) (.own A_NoGreatest) (ty _ s6) (hk 11 _ rfl) ?_
    walk_at "go"
    intro l7 n7
    have s7 := s6.trans (Same.new0 (o := .lst [V.bl (decide (i = 9)), V.bl (decide (i = 10)), V.bl (decide (i = 11))]) n7)
    have e7 : upd H6 l7 (.lst [V.bl (decide (i = 9)), V.bl (decide (i = 10)), V.bl (decide (i = 11))]) l7 = some (.lst [V.bl (decide (i = 9)), V.bl (decide (i = 10)), V.bl (decide (i = 11))]) := upd_same
    have f7 := h_keep e6 n7 (o := .lst [V.bl (decide (i = 9)), V.bl (decide (i = 10)), V.bl (decide (i = 11))])
    generalize upd H6 l7 (.lst [V.bl (decide (i = 9)), V.bl (decide (i = 10)), V.bl (decide (i = 11))]) = H7 at *
    walk_at "go"
    intro l8 n8
    have s8 := s7.trans (Same.new0 (o := .lst ([V.bl (decide (i = 0)), V.bl (decide (i = 1)), V.bl (decide (i = 2)), V.bl (decide (i = 3)), V.bl (decide (i = 4)), V.bl (decide (i = 5)), V.bl (decide (i = 6)), V.bl (decide (i = 7)), V.bl (decide (i = 8))] ++ [V.bl (decide (i = 9)), V.bl (decide (i = 10)), V.bl (decide (i = 11))])) n8)
    have e8 : upd H7 l8 (.lst ([V.bl (decide (i = 0)), V.bl (decide (i = 1)), V.bl (decide (i = 2)), V.bl (decide (i = 3)), V.bl (decide (i = 4)), V.bl (decide (i = 5)), V.bl (decide (i = 6)), V.bl (decide (i = 7)), V.bl (decide (i = 8))] ++ [V.bl (decide (i = 9)), V.bl (decide (i = 10)), V.bl (decide (i = 11))])) l8 = some (.lst [V.bl (decide (i = 0)), V.bl (decide (i = 1)), V.bl (decide (i = 2)), V.bl (decide (i = 3)), V.bl (decide (i = 4)), V.bl (decide (i = 5)), V.bl (decide (i = 6)), V.bl (decide (i = 7)), V.bl (decide (i = 8)), V.bl (decide (i = 9)), V.bl (decide (i = 10)), V.bl (decide (i = 11))]) := upd_same
    generalize upd H7 l8 (.lst ([V.bl (decide (i = 0)), V.bl (decide (i = 1)), V.bl (decide (i = 2)), V.bl (decide (i = 3)), V.bl (decide (i = 4)), V.bl (decide (i = 5)), V.bl (decide (i = 6)), V.bl (decide (i = 7)), V.bl (decide (i = 8))] ++ [V.bl (decide (i = 9)), V.bl (decide (i = 10)), V.bl (decide (i = 11))])) = H8 at *
    walk_at "go"
    refine r_isiE' (b := decide (i = 12)) (.own A_NoProgram) (ty _ s8) (hk 12 _ rfl) ?_
    walk_at "go"
    refine r_isiE' (b := decide (i = 13)) (.own A_NoneLeft) (ty _ s8) (hk 13 _ rfl) ?_
    walk_at "go"
    refine r_isiE' (b := decide (i = 14)) (.own A_Refused) (ty _ s8) (hk 14 _ rfl) ?_
    walk_at "go"
    intro l9 n9
    have s9 := s8.trans (Same.new0 (o := .lst [V.bl (decide (i = 12)), V.bl (decide (i = 13)), V.bl (decide (i = 14))]) n9)
    have e9 : upd H8 l9 (.lst [V.bl (decide (i = 12)), V.bl (decide (i = 13)), V.bl (decide (i = 14))]) l9 = some (.lst [V.bl (decide (i = 12)), V.bl (decide (i = 13)), V.bl (decide (i = 14))]) := upd_same
    have f9 := h_keep e8 n9 (o := .lst [V.bl (decide (i = 12)), V.bl (decide (i = 13)), V.bl (decide (i = 14))])
    generalize upd H8 l9 (.lst [V.bl (decide (i = 12)), V.bl (decide (i = 13)), V.bl (decide (i = 14))]) = H9 at *
    walk_at "go"
    intro l10 n10
    have s10 := s9.trans (Same.new0 (o := .lst ([V.bl (decide (i = 0)), V.bl (decide (i = 1)), V.bl (decide (i = 2)), V.bl (decide (i = 3)), V.bl (decide (i = 4)), V.bl (decide (i = 5)), V.bl (decide (i = 6)), V.bl (decide (i = 7)), V.bl (decide (i = 8)), V.bl (decide (i = 9)), V.bl (decide (i = 10)), V.bl (decide (i = 11))] ++ [V.bl (decide (i = 12)), V.bl (decide (i = 13)), V.bl (decide (i = 14))])) n10)
    have e10 : upd H9 l10 (.lst ([V.bl (decide (i = 0)), V.bl (decide (i = 1)), V.bl (decide (i = 2)), V.bl (decide (i = 3)), V.bl (decide (i = 4)), V.bl (decide (i = 5)), V.bl (decide (i = 6)), V.bl (decide (i = 7)), V.bl (decide (i = 8)), V.bl (decide (i = 9)), V.bl (decide (i = 10)), V.bl (decide (i = 11))] ++ [V.bl (decide (i = 12)), V.bl (decide (i = 13)), V.bl (decide (i = 14))])) l10 = some (.lst [V.bl (decide (i = 0)), V.bl (decide (i = 1)), V.bl (decide (i = 2)), V.bl (decide (i = 3)), V.bl (decide (i = 4)), V.bl (decide (i = 5)), V.bl (decide (i = 6)), V.bl (decide (i = 7)), V.bl (decide (i = 8)), V.bl (decide (i = 9)), V.bl (decide (i = 10)), V.bl (decide (i = 11)), V.bl (decide (i = 12)), V.bl (decide (i = 13)), V.bl (decide (i = 14))]) := upd_same
    generalize upd H9 l10 (.lst ([V.bl (decide (i = 0)), V.bl (decide (i = 1)), V.bl (decide (i = 2)), V.bl (decide (i = 3)), V.bl (decide (i = 4)), V.bl (decide (i = 5)), V.bl (decide (i = 6)), V.bl (decide (i = 7)), V.bl (decide (i = 8)), V.bl (decide (i = 9)), V.bl (decide (i = 10)), V.bl (decide (i = 11))] ++ [V.bl (decide (i = 12)), V.bl (decide (i = 13)), V.bl (decide (i = 14))])) = H10 at *
    walk_at "go"
    refine r_isiE' (b := decide (i = 15)) (.own A_NothingToUndo) (ty _ s10) (hk 15 _ rfl) ?_
    walk_at "go"
    refine r_isiE' (b := decide (i = 16)) (.own A_InvalidCommand) (ty _ s10) (hk 16 _ rfl) ?_
    walk_at "go"
    intro l11 n11
    have s11 := s10.trans (Same.new0 (o := .lst [V.bl (decide (i = 15)), V.bl (decide (i = 16))]) n11)
    have e11 : upd H10 l11 (.lst [V.bl (decide (i = 15)), V.bl (decide (i = 16))]) l11 = some (.lst [V.bl (decide (i = 15)), V.bl (decide (i = 16))]) := upd_same
    have f11 := h_keep e10 n11 (o := .lst [V.bl (decide (i = 15)), V.bl (decide (i = 16))])
    generalize upd H10 l11 (.lst [V.bl (decide (i = 15)), V.bl (decide (i = 16))]) = H11 at *
    walk_at "go"
    intro l12 n12
    have s12 := s11.trans (Same.new0 (o := .lst ([V.bl (decide (i = 0)), V.bl (decide (i = 1)), V.bl (decide (i = 2)), V.bl (decide (i = 3)), V.bl (decide (i = 4)), V.bl (decide (i = 5)), V.bl (decide (i = 6)), V.bl (decide (i = 7)), V.bl (decide (i = 8)), V.bl (decide (i = 9)), V.bl (decide (i = 10)), V.bl (decide (i = 11)), V.bl (decide (i = 12)), V.bl (decide (i = 13)), V.bl (decide (i = 14))] ++ [V.bl (decide (i = 15)), V.bl (decide (i = 16))])) n12)
    have e12 : upd H11 l12 (.lst ([V.bl (decide (i = 0)), V.bl (decide (i = 1)), V.bl (decide (i = 2)), V.bl (decide (i = 3)), V.bl (decide (i = 4)), V.bl (decide (i = 5)), V.bl (decide (i = 6)), V.bl (decide (i = 7)), V.bl (decide (i = 8)), V.bl (decide (i = 9)), V.bl (decide (i = 10)), V.bl (decide (i = 11)), V.bl (decide (i = 12)), V.bl (decide (i = 13)), V.bl (decide (i = 14))] ++ [V.bl (decide (i = 15)), V.bl (decide (i = 16))])) l12 = some (.lst [V.bl (decide (i = 0)), V.bl (decide (i = 1)), V.bl (decide (i = 2)), V.bl (decide (i = 3)), V.bl (decide (i = 4)), V.bl (decide (i = 5)), V.bl (decide (i = 6)), V.bl (decide (i = 7)), V.bl (decide (i = 8)), V.bl (decide (i = 9)), V.bl (decide (i = 10)), V.bl (decide (i = 11)), V.bl (decide (i = 12)), V.bl (decide (i = 13)), V.bl (decide (i = 14)), V.bl (decide (i = 15)), V.bl (decide (i = 16))]) := upd_same
    generalize upd H11 l12 (.lst ([V.bl (decide (i = 0)), V.bl (decide (i = 1)), V.bl (decide (i = 2)), V.bl (decide (i = 3)), V.bl (decide (i = 4)), V.bl (decide (i = 5)), V.bl (decide (i = 6)), V.bl (decide (i = 7)), V.bl (decide (i = 8)), V.bl (decide (i = 9)), V.bl (decide (i = 10)), V.bl (decide (i = 11)), V.bl (decide (i = 12)), V.bl (decide (i = 13)), V.bl (decide (i = 14))] ++ [V.bl (decide (i = 15)), V.bl (decide (i = 16))])) = H12 at *
    walk_at "go"
    refine r_isiE' (b := decide (i = 17)) (.own A_NotShort) (ty _ s12) (hk 17 _ rfl) ?_
    walk_at "go"
    refine r_isiE' (b := decide (i = 18)) (.own A_TooGreat) (ty _ s12) (hk 18 _ rfl) ?_
    walk_at "go"
    refine r_isiE' (b := decide (i = 19)) (.own A_InvalidWords) (ty _ s12) (hk 19 _ rfl) ?_
    walk_at "go"
    intro l13 n13
    have s13 := s12.trans (Same.new0 (o := .lst [V.bl (decide (i = 17)), V.bl (decide (i = 18)), V.bl (decide (i = 19))]) n13)
    have e13 : upd H12 l13 (.lst [V.bl (decide (i = 17)), V.bl (decide (i = 18)), V.bl (decide (i = 19))]) l13 = some (.lst [V.bl (decide (i = 17)), V.bl (decide (i = 18)), V.bl (decide (i = 19))]) := upd_same
    have f13 := h_keep e12 n13 (o := .lst [V.bl (decide (i = 17)), V.bl (decide (i = 18)), V.bl (decide (i = 19))])
    generalize upd H12 l13 (.lst [V.bl (decide (i = 17)), V.bl (decide (i = 18)), V.bl (decide (i = 19))]) = H13 at *
    walk_at "go"
    intro l14 n14
    have s14 := s13.trans (Same.new0 (o := .lst ([V.bl (decide (i = 0)), V.bl (decide (i = 1)), V.bl (decide (i = 2)), V.bl (decide (i = 3)), V.bl (decide (i = 4)), V.bl (decide (i = 5)), V.bl (decide (i = 6)), V.bl (decide (i = 7)), V.bl (decide (i = 8)), V.bl (decide (i = 9)), V.bl (decide (i = 10)), V.bl (decide (i = 11)), V.bl (decide (i = 12)), V.bl (decide (i = 13)), V.bl (decide (i = 14)), V.bl (decide (i = 15)), V.bl (decide (i = 16))] ++ [V.bl (decide (i = 17)), V.bl (decide (i = 18)), V.bl (decide (i = 19))])) n14)
    have e14 : upd H13 l14 (.lst ([V.bl (decide (i = 0)), V.bl (decide (i = 1)), V.bl (decide (i = 2)), V.bl (decide (i = 3)), V.bl (decide (i = 4)), V.bl (decide (i = 5)), V.bl (decide (i = 6)), V.bl (decide (i = 7)), V.bl (decide (i = 8)), V.bl (decide (i = 9)), V.bl (decide (i = 10)), V.bl (decide (i = 11)), V.bl (decide (i = 12)), V.bl (decide (i = 13)), V.bl (decide (i = 14)), V.bl (decide (i = 15)), V.bl (decide (i = 16))] ++ [V.bl (decide (i = 17)), V.bl (decide (i = 18)), V.bl (decide (i = 19))])) l14 = some (.lst [V.bl (decide (i = 0)), V.bl (decide (i = 1)), V.bl (decide (i = 2)), V.bl (decide (i = 3)), V.bl (decide (i = 4)), V.bl (decide (i = 5)), V.bl (decide (i = 6)), V.bl (decide (i = 7)), V.bl (decide (i = 8)), V.bl (decide (i = 9)), V.bl (decide (i = 10)), V.bl (decide (i = 11)), V.bl (decide (i = 12)), V.bl (decide (i = 13)), V.bl (decide (i = 14)), V.bl (decide (i = 15)), V.bl (decide (i = 16)), V.bl (decide (i = 17)), V.bl (decide (i = 18)), V.bl (decide (i = 19))]) := upd_same
    generalize upd H13 l14 (.lst ([V.bl (decide (i = 0)), V.bl (decide (i = 1)), V.bl (decide (i = 2)), V.bl (decide (i = 3)), V.bl (decide (i = 4)), V.bl (decide (i = 5)), V.bl (decide (i = 6)), V.bl (decide (i = 7)), V.bl (decide (i = 8)), V.bl (decide (i = 9)), V.bl (decide (i = 10)), V.bl (decide (i = 11)), V.bl (decide (i = 12)), V.bl (decide (i = 13)), V.bl (decide (i = 14)), V.bl (decide (i = 15)), V.bl (decide (i = 16))] ++ [V.bl (decide (i = 17)), V.bl (decide (i = 18)), V.bl (decide (i = 19))])) = H14 at *
    walk_at "go"
    refine r_isiE' (b := decide (i = 20)) (.own A_UnknownName) (ty _ s14) (hk 20 _ rfl) ?_
    walk_at "go"
    intro l15 n15
    have s15 := s14.trans (Same.new0 (o := .lst [V.bl (decide (i = 20))]) n15)
    have e15 : upd H14 l15 (.lst [V.bl (decide (i = 20))]) l15 = some (.lst [V.bl (decide (i = 20))]) := upd_same
    have f15 := h_keep e14 n15 (o := .lst [V.bl (decide (i = 20))])
    generalize upd H14 l15 (.lst [V.bl (decide (i = 20))]) = H15 at *
    walk_at "go"
    intro l16 n16
    have s16 := s15.trans (Same.new0 (o := .lst ([V.bl (decide (i = 0)), V.bl (decide (i = 1)), V.bl (decide (i = 2)), V.bl (decide (i = 3)), V.bl (decide (i = 4)), V.bl (decide (i = 5)), V.bl (decide (i = 6)), V.bl (decide (i = 7)), V.bl (decide (i = 8)), V.bl (decide (i = 9)), V.bl (decide (i = 10)), V.bl (decide (i = 11)), V.bl (decide (i = 12)), V.bl (decide (i = 13)), V.bl (decide (i = 14)), V.bl (decide (i = 15)), V.bl (decide (i = 16)), V.bl (decide (i = 17)), V.bl (decide (i = 18)), V.bl (decide (i = 19))] ++ [V.bl (decide (i = 20))])) n16)
    have e16 : upd H15 l16 (.lst ([V.bl (decide (i = 0)), V.bl (decide (i = 1)), V.bl (decide (i = 2)), V.bl (decide (i = 3)), V.bl (decide (i = 4)), V.bl (decide (i = 5)), V.bl (decide (i = 6)), V.bl (decide (i = 7)), V.bl (decide (i = 8)), V.bl (decide (i = 9)), V.bl (decide (i = 10)), V.bl (decide (i = 11)), V.bl (decide (i = 12)), V.bl (decide (i = 13)), V.bl (decide (i = 14)), V.bl (decide (i = 15)), V.bl (decide (i = 16)), V.bl (decide (i = 17)), V.bl (decide (i = 18)), V.bl (decide (i = 19))] ++ [V.bl (decide (i = 20))])) l16 = some (.lst [V.bl (decide (i = 0)), V.bl (decide (i = 1)), V.bl (decide (i = 2)), V.bl (decide (i = 3)), V.bl (decide (i = 4)), V.bl (decide (i = 5)), V.bl (decide (i = 6)), V.bl (decide (i = 7)), V.bl (decide (i = 8)), V.bl (decide (i = 9)), V.bl (decide (i = 10)), V.bl (decide (i = 11)), V.bl (decide (i = 12)), V.bl (decide (i = 13)), V.bl (decide (i = 14)), V.bl (decide (i = 15)), V.bl (decide (i = 16)), V.bl (decide (i = 17)), V.bl (decide (i = 18)), V.bl (decide (i = 19)), V.bl (decide (i = 20))]) := upd_same
    generalize upd H15 l16 (.lst ([V.bl (decide (i = 0)), V.bl (decide (i = 1)), V.bl (decide (i = 2)), V.bl (decide (i = 3)), V.bl (decide (i = 4)), V.bl (decide (i = 5)), V.bl (decide (i = 6)), V.bl (decide (i = 7)), V.bl (decide (i = 8)), V.bl (decide (i = 9)), V.bl (decide (i = 10)), V.bl (decide (i = 11)), V.bl (decide (i = 12)), V.bl (decide (i = 13)), V.bl (decide (i = 14)), V.bl (decide (i = 15)), V.bl (decide (i = 16)), V.bl (decide (i = 17)), V.bl (decide (i = 18)), V.bl (decide (i = 19))] ++ [V.bl (decide (i = 20))])) = H16 at *
    exact k _ _ s16 (e16.trans rfl)
theorem plSame {H H' : Hp} {vs : List V} {As : List Addr} (h : Paired (PlA H) vs As) (s : Same H H') : Paired (PlA H') vs As := by
  induction h with
  | nil => exact .nil
  | cons a _ ih => exact .cons (a.same s) ih
theorem plApp {H : Hp} {vs us : List V} {As Bs : List Addr} (h : Paired (PlA H) vs As) (g : Paired (PlA H) us Bs) : Paired (PlA H) (vs ++ us) (As ++ Bs) := by
  induction h with
  | nil => exact g
  | cons a _ ih => exact .cons a ih
theorem plAt {H : Hp} {vs : List V} {As : List Addr} (h : Paired (PlA H) vs As) : vs.length = As.length ∧ ∀ (i : Nat) (v : V) (A : Addr), vs[i]? = some v → As[i]? = some A → PlA H v A := by
  induction h with
  | nil => exact ⟨rfl, fun i v A e => by cases e⟩
  | cons a _ ih =>
    refine ⟨congrArg Nat.succ ih.1, fun i v A e1 e2 => ?_⟩
    cases i with
    | zero => cases e1; cases e2; exact a
    | succ i => exact ih.2 i v A e1 e2

theorem ok_l_objects {f : Addr} {fd : FuncData} (F : Fun K "_law_objects" "_law_objects" s_l_objects f fd) (B : Bl mg) (bIsi : mg "isinstance" = none) (X_InvalidPoly : OwnX K mg "InvalidPoly" A_InvalidPoly) (X_InvalidDivisor : OwnX K mg "InvalidDivisor" A_InvalidDivisor) (X_InvalidNumber : OwnX K mg "InvalidNumber" A_InvalidNumber) (X_InvalidOrder : OwnX K mg "InvalidOrder" A_InvalidOrder) (X_InvalidOrders : OwnX K mg "InvalidOrders" A_InvalidOrders) (X_InvalidName : OwnX K mg "InvalidName" A_InvalidName) (X_InvalidProgram : OwnX K mg "InvalidProgram" A_InvalidProgram) (X_InvalidCount : OwnX K mg "InvalidCount" A_InvalidCount) (X_InvalidIndex : OwnX K mg "InvalidIndex" A_InvalidIndex) (X_InvalidClaim : OwnX K mg "InvalidClaim" A_InvalidClaim) (X_NotAChain : OwnX K mg "NotAChain" A_NotAChain) (X_NoGreatest : OwnX K mg "NoGreatest" A_NoGreatest) (X_NoProgram : OwnX K mg "NoProgram" A_NoProgram) (X_NoneLeft : OwnX K mg "NoneLeft" A_NoneLeft) (X_Refused : OwnX K mg "Refused" A_Refused) (X_NothingToUndo : OwnX K mg "NothingToUndo" A_NothingToUndo) (X_InvalidCommand : OwnX K mg "InvalidCommand" A_InvalidCommand) (XI_NotShort : OwnI P w K mg base "NotShort" A_NotShort "amount") (XI_TooGreat : OwnI P w K mg base "TooGreat" A_TooGreat "number") (XI_InvalidWords : OwnI P w K mg base "InvalidWords" A_InvalidWords "spot") (XI_UnknownName : OwnI P w K mg base "UnknownName" A_UnknownName "name") : FnOk P w K mg base CX0 3 f fd ["_law_text", "_law_amounts", "_law_title"] (spObjects [A_InvalidPoly, A_InvalidDivisor, A_InvalidNumber, A_InvalidOrder, A_InvalidOrders, A_InvalidName, A_InvalidProgram, A_InvalidCount, A_InvalidIndex, A_InvalidClaim, A_NotAChain, A_NoGreatest, A_NoProgram, A_NoneLeft, A_Refused, A_NothingToUndo, A_InvalidCommand, A_NotShort, A_TooGreat, A_InvalidWords, A_UnknownName]) := by
  refine F.ok sc_l_objects (fun vs H Q E h => ?_) (fun cdv A outer s H vs Q E hr h => ?_)
  · obtain ⟨t, n, la, x, y, z, rfl, _⟩ := h
    rfl
  · obtain ⟨t, n, la, x, y, z, rfl, hla, k⟩ := h
    have s0 := Same.refl H
    refine ⟨_, (pss_cons (ps_set (i := 3) sc_l_objects.nd rfl (.inl rfl) (pe_lst (pa_cons (pe_exc1 PySem.F.excBase_ValueError X_InvalidPoly.xi X_InvalidPoly.g X_InvalidPoly.k rfl (pv 0)) (pa_cons (pe_exc1 PySem.F.excBase_ValueError X_InvalidDivisor.xi X_InvalidDivisor.g X_InvalidDivisor.k rfl (pv 0)) (pa_cons (pe_exc1 PySem.F.excBase_ValueError X_InvalidNumber.xi X_InvalidNumber.g X_InvalidNumber.k rfl (pv 0)) (pa_cons (pe_exc1 PySem.F.excBase_ValueError X_InvalidOrder.xi X_InvalidOrder.g X_InvalidOrder.k rfl (pv 0)) (pa_cons (pe_exc1 PySem.F.excBase_ValueError X_InvalidOrders.xi X_InvalidOrders.g X_InvalidOrders.k rfl (pv 0)) pa_nil)))))))
    (pss_cons (ps_set (i := 3) sc_l_objects.nd rfl (.inl rfl) (pe_op op_cat (pv 3) (pe_lst (pa_cons (pe_exc1 PySem.F.excBase_ValueError X_InvalidName.xi X_InvalidName.g X_InvalidName.k rfl (pv 0)) (pa_cons (pe_exc1 PySem.F.excBase_ValueError X_InvalidProgram.xi X_InvalidProgram.g X_InvalidProgram.k rfl (pv 0)) (pa_cons (pe_exc1 PySem.F.excBase_ValueError X_InvalidCount.xi X_InvalidCount.g X_InvalidCount.k rfl (pv 0)) (pa_cons (pe_exc1 PySem.F.excBase_ValueError X_InvalidIndex.xi X_InvalidIndex.g X_InvalidIndex.k rfl (pv 0)) pa_nil)))))))
    (pss_cons (ps_set (i := 3) sc_l_objects.nd rfl (.inl rfl) (pe_op op_cat (pv 3) (pe_lst (pa_cons (pe_exc1 PySem.F.excBase_ValueError X_InvalidClaim.xi X_InvalidClaim.g X_InvalidClaim.k rfl (pv 0)) (pa_cons (pe_exc1 PySem.F.excBase_ValueError X_NotAChain.xi X_NotAChain.g X_NotAChain.k rfl (pv 0)) (pa_cons (pe_exc1 PySem.F.excBase_ValueError X_NoGreatest.xi X_NoGreatest.g X_NoGreatest.k rfl (pv 0)) (pa_cons (pe_exc1 PySem.F.excBase_ValueError X_NoProgram.xi X_NoProgram.g X_NoProgram.k rfl (pv 0)) (pa_cons (pe_exc1 PySem.F.excBase_ValueError X_NoneLeft.xi X_NoneLeft.g X_NoneLeft.k rfl (pv 0)) pa_nil))))))))
    (pss_cons (ps_set (i := 3) sc_l_objects.nd rfl (.inl rfl) (pe_op op_cat (pv 3) (pe_lst (pa_cons (pe_exc1 PySem.F.excBase_ValueError X_Refused.xi X_Refused.g X_Refused.k rfl (pv 0)) (pa_cons (pe_exc1 PySem.F.excBase_ValueError X_NothingToUndo.xi X_NothingToUndo.g X_NothingToUndo.k rfl (pv 0)) (pa_cons (pe_exc1 PySem.F.excBase_ValueError X_InvalidCommand.xi X_InvalidCommand.g X_InvalidCommand.k rfl (pv 0)) (pa_cons (pe_mkV XI_NotShort (hr.mono (by first | decide | omega)) (pa_cons (pe_ix (ix_listK (K := K)) (pv 1) pe_int (fun _ _ => rfl)) pa_nil)) pa_nil)))))))
    (pss_one (ps_ret (pe_op op_cat (pv 3) (pe_lst (pa_cons (pe_mkV XI_TooGreat (hr.mono (by first | decide | omega)) (pa_cons (pe_ix (ix_listK (K := K)) (pv 1) pe_int (fun _ _ => rfl)) pa_nil)) (pa_cons (pe_mkV XI_InvalidWords (hr.mono (by first | decide | omega)) (pa_cons (pe_ix (ix_listK (K := K)) (pv 1) pe_int (fun _ _ => rfl)) pa_nil)) (pa_cons (pe_mkV XI_UnknownName (hr.mono (by first | decide | omega)) (pa_cons (pv 2) pa_nil)) pa_nil))))))))))), ?_⟩
    walk_at "go"
    intro x0 nx0
    have q0 : PlA (upd H x0 (ExO (.ref A_InvalidPoly) x0)) (.ref x0) A_InvalidPoly := ⟨x0, rfl, upd_same⟩
    have tH1 := Same.new0 (o := (ExO (.ref A_InvalidPoly) x0)) nx0
    replace s0 := s0.trans tH1
    replace hla := tH1 _ _ hla
    generalize upd H x0 (ExO (.ref A_InvalidPoly) x0) = H1 at *
    walk_at "go"
    intro x1 nx1
    have q1 : PlA (upd H1 x1 (ExO (.ref A_InvalidDivisor) x1)) (.ref x1) A_InvalidDivisor := ⟨x1, rfl, upd_same⟩
    have tH2 := Same.new0 (o := (ExO (.ref A_InvalidDivisor) x1)) nx1
    replace s0 := s0.trans tH2
    replace hla := tH2 _ _ hla
    replace q0 := q0.same tH2
    generalize upd H1 x1 (ExO (.ref A_InvalidDivisor) x1) = H2 at *
    walk_at "go"
    intro x2 nx2
    have q2 : PlA (upd H2 x2 (ExO (.ref A_InvalidNumber) x2)) (.ref x2) A_InvalidNumber := ⟨x2, rfl, upd_same⟩
    have tH3 := Same.new0 (o := (ExO (.ref A_InvalidNumber) x2)) nx2
    replace s0 := s0.trans tH3
    replace hla := tH3 _ _ hla
    replace q0 := q0.same tH3
    replace q1 := q1.same tH3
    generalize upd H2 x2 (ExO (.ref A_InvalidNumber) x2) = H3 at *
    walk_at "go"
    intro x3 nx3
    have q3 : PlA (upd H3 x3 (ExO (.ref A_InvalidOrder) x3)) (.ref x3) A_InvalidOrder := ⟨x3, rfl, upd_same⟩
    have tH4 := Same.new0 (o := (ExO (.ref A_InvalidOrder) x3)) nx3
    replace s0 := s0.trans tH4
    replace hla := tH4 _ _ hla
    replace q0 := q0.same tH4
    replace q1 := q1.same tH4
    replace q2 := q2.same tH4
    generalize upd H3 x3 (ExO (.ref A_InvalidOrder) x3) = H4 at *
    walk_at "go"
    intro x4 nx4
    have q4 : PlA (upd H4 x4 (ExO (.ref A_InvalidOrders) x4)) (.ref x4) A_InvalidOrders := ⟨x4, rfl, upd_same⟩
    have tH5 := Same.new0 (o := (ExO (.ref A_InvalidOrders) x4)) nx4
    replace s0 := s0.trans tH5
    replace hla := tH5 _ _ hla
    replace q0 := q0.same tH5
    replace q1 := q1.same tH5
    replace q2 := q2.same tH5
    replace q3 := q3.same tH5
    generalize upd H4 x4 (ExO (.ref A_InvalidOrders) x4) = H5 at *
    walk_at "go"
    intro m0 nm0
    have e_m0 : upd H5 m0 (.lst [V.ref x0, V.ref x1, V.ref x2, V.ref x3, V.ref x4]) m0 = some (.lst [V.ref x0, V.ref x1, V.ref x2, V.ref x3, V.ref x4]) := upd_same
    have tH6 := Same.new0 (o := (.lst [V.ref x0, V.ref x1, V.ref x2, V.ref x3, V.ref x4])) nm0
    replace s0 := s0.trans tH6
    replace hla := tH6 _ _ hla
    replace q0 := q0.same tH6
    replace q1 := q1.same tH6
    replace q2 := q2.same tH6
    replace q3 := q3.same tH6
    replace q4 := q4.same tH6
    generalize upd H5 m0 (.lst [V.ref x0, V.ref x1, V.ref x2, V.ref x3, V.ref x4]) = H6 at *
    have ac0 : Paired (PlA H6) [V.ref x0, V.ref x1, V.ref x2, V.ref x3, V.ref x4] [A_InvalidPoly, A_InvalidDivisor, A_InvalidNumber, A_InvalidOrder, A_InvalidOrders] := (.cons q0 (.cons q1 (.cons q2 (.cons q3 (.cons q4 .nil)))))
    have acc := ac0
    clear q0 q1 q2 q3 q4 ac0
    walk_at "go"
    intro x5 nx5
    have q5 : PlA (upd H6 x5 (ExO (.ref A_InvalidName) x5)) (.ref x5) A_InvalidName := ⟨x5, rfl, upd_same⟩
    have tH7 := Same.new0 (o := (ExO (.ref A_InvalidName) x5)) nx5
    replace s0 := s0.trans tH7
    replace hla := tH7 _ _ hla
    replace acc := plSame acc tH7
    replace e_m0 := tH7 _ _ e_m0
    generalize upd H6 x5 (ExO (.ref A_InvalidName) x5) = H7 at *
    walk_at "go"
    intro x6 nx6
    have q6 : PlA (upd H7 x6 (ExO (.ref A_InvalidProgram) x6)) (.ref x6) A_InvalidProgram := ⟨x6, rfl, upd_same⟩
    have tH8 := Same.new0 (o := (ExO (.ref A_InvalidProgram) x6)) nx6
    replace s0 := s0.trans tH8
    replace hla := tH8 _ _ hla
    replace acc := plSame acc tH8
    replace e_m0 := tH8 _ _ e_m0
    replace q5 := q5.same tH8
    generalize upd H7 x6 (ExO (.ref A_InvalidProgram) x6) = H8 at *
    walk_at "go"
    intro x7 nx7
    have q7 : PlA (upd H8 x7 (ExO (.ref A_InvalidCount) x7)) (.ref x7) A_InvalidCount := ⟨x7, rfl, upd_same⟩
    have tH9 := Same.new0 (o := (ExO (.ref A_InvalidCount) x7)) nx7
    replace s0 := s0.trans tH9
    replace hla := tH9 _ _ hla
    replace acc := plSame acc tH9
    replace e_m0 := tH9 _ _ e_m0
    replace q5 := q5.same tH9
    replace q6 := q6.same tH9
    generalize upd H8 x7 (ExO (.ref A_InvalidCount) x7) = H9 at *
    walk_at "go"
    intro x8 nx8
    have q8 : PlA (upd H9 x8 (ExO (.ref A_InvalidIndex) x8)) (.ref x8) A_InvalidIndex := ⟨x8, rfl, upd_same⟩
    have tH10 := Same.new0 (o := (ExO (.ref A_InvalidIndex) x8)) nx8
    replace s0 := s0.trans tH10
    replace hla := tH10 _ _ hla
    replace acc := plSame acc tH10
    replace e_m0 := tH10 _ _ e_m0
    replace q5 := q5.same tH10
    replace q6 := q6.same tH10
    replace q7 := q7.same tH10
    generalize upd H9 x8 (ExO (.ref A_InvalidIndex) x8) = H10 at *
    walk_at "go"
    intro m1 nm1
    have e_m1 : upd H10 m1 (.lst [V.ref x5, V.ref x6, V.ref x7, V.ref x8]) m1 = some (.lst [V.ref x5, V.ref x6, V.ref x7, V.ref x8]) := upd_same
    have tH11 := Same.new0 (o := (.lst [V.ref x5, V.ref x6, V.ref x7, V.ref x8])) nm1
    replace s0 := s0.trans tH11
    replace hla := tH11 _ _ hla
    replace acc := plSame acc tH11
    replace e_m0 := tH11 _ _ e_m0
    replace q5 := q5.same tH11
    replace q6 := q6.same tH11
    replace q7 := q7.same tH11
    replace q8 := q8.same tH11
    generalize upd H10 m1 (.lst [V.ref x5, V.ref x6, V.ref x7, V.ref x8]) = H11 at *
    have ac1 : Paired (PlA H11) [V.ref x5, V.ref x6, V.ref x7, V.ref x8] [A_InvalidName, A_InvalidProgram, A_InvalidCount, A_InvalidIndex] := (.cons q5 (.cons q6 (.cons q7 (.cons q8 .nil))))
    replace acc := plApp acc ac1
    clear q5 q6 q7 q8 ac1
    walk_at "go"
    intro w1 nw1
    have e_w1 : upd H11 w1 (.lst ([V.ref x0, V.ref x1, V.ref x2, V.ref x3, V.ref x4] ++ [V.ref x5, V.ref x6, V.ref x7, V.ref x8])) w1 = some (.lst [V.ref x0, V.ref x1, V.ref x2, V.ref x3, V.ref x4, V.ref x5, V.ref x6, V.ref x7, V.ref x8]) := upd_same
    have tH12 := Same.new0 (o := (.lst ([V.ref x0, V.ref x1, V.ref x2, V.ref x3, V.ref x4] ++ [V.ref x5, V.ref x6, V.ref x7, V.ref x8]))) nw1
    replace s0 := s0.trans tH12
    replace hla := tH12 _ _ hla
    replace acc := plSame acc tH12
    replace e_m0 := tH12 _ _ e_m0
    replace e_m1 := tH12 _ _ e_m1
    generalize upd H11 w1 (.lst ([V.ref x0, V.ref x1, V.ref x2, V.ref x3, V.ref x4] ++ [V.ref x5, V.ref x6, V.ref x7, V.ref x8])) = H12 at *
    walk_at "go"
    intro x9 nx9
    have q9 : PlA (upd H12 x9 (ExO (.ref A_InvalidClaim) x9)) (.ref x9) A_InvalidClaim := ⟨x9, rfl, upd_same⟩
    have tH13 := Same.new0 (o := (ExO (.ref A_InvalidClaim) x9)) nx9
    replace s0 := s0.trans tH13
    replace hla := tH13 _ _ hla
    replace acc := plSame acc tH13
    replace e_w1 := tH13 _ _ e_w1
    generalize upd H12 x9 (ExO (.ref A_InvalidClaim) x9) = H13 at *
    walk_at "go"
    intro x10 nx10
    have q10 : PlA (upd H13 x10 (ExO (.ref A_NotAChain) x10)) (.ref x10) A_NotAChain := ⟨x10, rfl, upd_same⟩
    have tH14 := Same.new0 (o := (ExO (.ref A_NotAChain) x10)) nx10
    replace s0 := s0.trans tH14
    replace hla := tH14 _ _ hla
    replace acc := plSame acc tH14
    replace e_w1 := tH14 _ _ e_w1
    replace q9 := q9.same tH14
    generalize upd H13 x10 (ExO (.ref A_NotAChain) x10) = H14 at *
    walk_at "go"
    intro x11 nx11
    have q11 : PlA (upd H14 x11 (ExO (.ref A_NoGreatest) x11)) (.ref x11) A_NoGreatest := ⟨x11, rfl, upd_same⟩
    have tH15 := Same.new0 (o := (ExO (.ref A_NoGreatest) x11)) nx11
    replace s0 := s0.trans tH15
    replace hla := tH15 _ _ hla
    replace acc := plSame acc tH15
    replace e_w1 := tH15 _ _ e_w1
    replace q9 := q9.same tH15
    replace q10 := q10.same tH15
    generalize upd H14 x11 (ExO (.ref A_NoGreatest) x11) = H15 at *
    walk_at "go"
    intro x12 nx12
    have q12 : PlA (upd H15 x12 (ExO (.ref A_NoProgram) x12)) (.ref x12) A_NoProgram := ⟨x12, rfl, upd_same⟩
    have tH16 := Same.new0 (o := (ExO (.ref A_NoProgram) x12)) nx12
    replace s0 := s0.trans tH16
    replace hla := tH16 _ _ hla
    replace acc := plSame acc tH16
    replace e_w1 := tH16 _ _ e_w1
    replace q9 := q9.same tH16
    replace q10 := q10.same tH16
    replace q11 := q11.same tH16
    generalize upd H15 x12 (ExO (.ref A_NoProgram) x12) = H16 at *
    walk_at "go"
    intro x13 nx13
    have q13 : PlA (upd H16 x13 (ExO (.ref A_NoneLeft) x13)) (.ref x13) A_NoneLeft := ⟨x13, rfl, upd_same⟩
    have tH17 := Same.new0 (o := (ExO (.ref A_NoneLeft) x13)) nx13
    replace s0 := s0.trans tH17
    replace hla := tH17 _ _ hla
    replace acc := plSame acc tH17
    replace e_w1 := tH17 _ _ e_w1
    replace q9 := q9.same tH17
    replace q10 := q10.same tH17
    replace q11 := q11.same tH17
    replace q12 := q12.same tH17
    generalize upd H16 x13 (ExO (.ref A_NoneLeft) x13) = H17 at *
    walk_at "go"
    intro m2 nm2
    have e_m2 : upd H17 m2 (.lst [V.ref x9, V.ref x10, V.ref x11, V.ref x12, V.ref x13]) m2 = some (.lst [V.ref x9, V.ref x10, V.ref x11, V.ref x12, V.ref x13]) := upd_same
    have tH18 := Same.new0 (o := (.lst [V.ref x9, V.ref x10, V.ref x11, V.ref x12, V.ref x13])) nm2
    replace s0 := s0.trans tH18
    replace hla := tH18 _ _ hla
    replace acc := plSame acc tH18
    replace e_w1 := tH18 _ _ e_w1
    replace q9 := q9.same tH18
    replace q10 := q10.same tH18
    replace q11 := q11.same tH18
    replace q12 := q12.same tH18
    replace q13 := q13.same tH18
    generalize upd H17 m2 (.lst [V.ref x9, V.ref x10, V.ref x11, V.ref x12, V.ref x13]) = H18 at *
    have ac2 : Paired (PlA H18) [V.ref x9, V.ref x10, V.ref x11, V.ref x12, V.ref x13] [A_InvalidClaim, A_NotAChain, A_NoGreatest, A_NoProgram, A_NoneLeft] := (.cons q9 (.cons q10 (.cons q11 (.cons q12 (.cons q13 .nil)))))
    replace acc := plApp acc ac2
    clear q9 q10 q11 q12 q13 ac2
    walk_at "go"
    intro w2 nw2
    have e_w2 : upd H18 w2 (.lst ([V.ref x0, V.ref x1, V.ref x2, V.ref x3, V.ref x4, V.ref x5, V.ref x6, V.ref x7, V.ref x8] ++ [V.ref x9, V.ref x10, V.ref x11, V.ref x12, V.ref x13])) w2 = some (.lst [V.ref x0, V.ref x1, V.ref x2, V.ref x3, V.ref x4, V.ref x5, V.ref x6, V.ref x7, V.ref x8, V.ref x9, V.ref x10, V.ref x11, V.ref x12, V.ref x13]) := upd_same
    have tH19 := Same.new0 (o := (.lst ([V.ref x0, V.ref x1, V.ref x2, V.ref x3, V.ref x4, V.ref x5, V.ref x6, V.ref x7, V.ref x8] ++ [V.ref x9, V.ref x10, V.ref x11, V.ref x12, V.ref x13]))) nw2
    replace s0 := s0.trans tH19
    replace hla := tH19 _ _ hla
    replace acc := plSame acc tH19
    replace e_w1 := tH19 _ _ e_w1
    replace e_m2 := tH19 _ _ e_m2
    generalize upd H18 w2 (.lst ([V.ref x0, V.ref x1, V.ref x2, V.ref x3, V.ref x4, V.ref x5, V.ref x6, V.ref x7, V.ref x8] ++ [V.ref x9, V.ref x10, V.ref x11, V.ref x12, V.ref x13])) = H19 at *
    walk_at "go"
    intro x14 nx14
    have q14 : PlA (upd H19 x14 (ExO (.ref A_Refused) x14)) (.ref x14) A_Refused := ⟨x14, rfl, upd_same⟩
    have tH20 := Same.new0 (o := (ExO (.ref A_Refused) x14)) nx14
    replace s0 := s0.trans tH20
    replace hla := tH20 _ _ hla
    replace acc := plSame acc tH20
    replace e_w2 := tH20 _ _ e_w2
    generalize upd H19 x14 (ExO (.ref A_Refused) x14) = H20 at *
    walk_at "go"
    intro x15 nx15
    have q15 : PlA (upd H20 x15 (ExO (.ref A_NothingToUndo) x15)) (.ref x15) A_NothingToUndo := ⟨x15, rfl, upd_same⟩
    have tH21 := Same.new0 (o := (ExO (.ref A_NothingToUndo) x15)) nx15
    replace s0 := s0.trans tH21
    replace hla := tH21 _ _ hla
    replace acc := plSame acc tH21
    replace e_w2 := tH21 _ _ e_w2
    replace q14 := q14.same tH21
    generalize upd H20 x15 (ExO (.ref A_NothingToUndo) x15) = H21 at *
    walk_at "go"
    intro x16 nx16
    have q16 : PlA (upd H21 x16 (ExO (.ref A_InvalidCommand) x16)) (.ref x16) A_InvalidCommand := ⟨x16, rfl, upd_same⟩
    have tH22 := Same.new0 (o := (ExO (.ref A_InvalidCommand) x16)) nx16
    replace s0 := s0.trans tH22
    replace hla := tH22 _ _ hla
    replace acc := plSame acc tH22
    replace e_w2 := tH22 _ _ e_w2
    replace q14 := q14.same tH22
    replace q15 := q15.same tH22
    generalize upd H21 x16 (ExO (.ref A_InvalidCommand) x16) = H22 at *
    walk_at "go"
    refine ⟨_, rfl, fun d17 K17 x17 nd17 sd17 hd17 nx17 => ?_⟩
    replace s0 := s0.trans sd17
    replace hla := sd17 _ _ hla
    replace acc := plSame acc sd17
    replace e_w2 := sd17 _ _ e_w2
    replace q14 := q14.same sd17
    replace q15 := q15.same sd17
    replace q16 := q16.same sd17
    have q17 : FlA (upd K17 x17 (ExV (.ref A_NotShort) (some d17) x17)) (.ref x17) A_NotShort "amount" (.int x) := ⟨x17, d17, rfl, upd_same, h_keep hd17 nx17⟩
    have tH23 := Same.new0 (o := (ExV (.ref A_NotShort) (some d17) x17)) nx17
    replace s0 := s0.trans tH23
    replace hla := tH23 _ _ hla
    replace acc := plSame acc tH23
    replace e_w2 := tH23 _ _ e_w2
    replace q14 := q14.same tH23
    replace q15 := q15.same tH23
    replace q16 := q16.same tH23
    generalize upd K17 x17 (ExV (.ref A_NotShort) (some d17) x17) = H23 at *
    walk_at "go"
    intro m3 nm3
    have e_m3 : upd H23 m3 (.lst [V.ref x14, V.ref x15, V.ref x16, V.ref x17]) m3 = some (.lst [V.ref x14, V.ref x15, V.ref x16, V.ref x17]) := upd_same
    have tH24 := Same.new0 (o := (.lst [V.ref x14, V.ref x15, V.ref x16, V.ref x17])) nm3
    replace s0 := s0.trans tH24
    replace hla := tH24 _ _ hla
    replace acc := plSame acc tH24
    replace e_w2 := tH24 _ _ e_w2
    replace q14 := q14.same tH24
    replace q15 := q15.same tH24
    replace q16 := q16.same tH24
    replace q17 := q17.same tH24
    generalize upd H23 m3 (.lst [V.ref x14, V.ref x15, V.ref x16, V.ref x17]) = H24 at *
    have ac3 : Paired (PlA H24) [V.ref x14, V.ref x15, V.ref x16] [A_Refused, A_NothingToUndo, A_InvalidCommand] := (.cons q14 (.cons q15 (.cons q16 .nil)))
    replace acc := plApp acc ac3
    clear q14 q15 q16 ac3
    walk_at "go"
    intro w3 nw3
    have e_w3 : upd H24 w3 (.lst ([V.ref x0, V.ref x1, V.ref x2, V.ref x3, V.ref x4, V.ref x5, V.ref x6, V.ref x7, V.ref x8, V.ref x9, V.ref x10, V.ref x11, V.ref x12, V.ref x13] ++ [V.ref x14, V.ref x15, V.ref x16, V.ref x17])) w3 = some (.lst [V.ref x0, V.ref x1, V.ref x2, V.ref x3, V.ref x4, V.ref x5, V.ref x6, V.ref x7, V.ref x8, V.ref x9, V.ref x10, V.ref x11, V.ref x12, V.ref x13, V.ref x14, V.ref x15, V.ref x16, V.ref x17]) := upd_same
    have tH25 := Same.new0 (o := (.lst ([V.ref x0, V.ref x1, V.ref x2, V.ref x3, V.ref x4, V.ref x5, V.ref x6, V.ref x7, V.ref x8, V.ref x9, V.ref x10, V.ref x11, V.ref x12, V.ref x13] ++ [V.ref x14, V.ref x15, V.ref x16, V.ref x17]))) nw3
    replace s0 := s0.trans tH25
    replace hla := tH25 _ _ hla
    replace acc := plSame acc tH25
    replace e_w2 := tH25 _ _ e_w2
    replace q17 := q17.same tH25
    replace e_m3 := tH25 _ _ e_m3
    generalize upd H24 w3 (.lst ([V.ref x0, V.ref x1, V.ref x2, V.ref x3, V.ref x4, V.ref x5, V.ref x6, V.ref x7, V.ref x8, V.ref x9, V.ref x10, V.ref x11, V.ref x12, V.ref x13] ++ [V.ref x14, V.ref x15, V.ref x16, V.ref x17])) = H25 at *
    walk_at "go"
    refine ⟨_, rfl, fun d18 K18 x18 nd18 sd18 hd18 nx18 => ?_⟩
    replace s0 := s0.trans sd18
    replace hla := sd18 _ _ hla
    replace acc := plSame acc sd18
    replace q17 := q17.same sd18
    replace e_w3 := sd18 _ _ e_w3
    have q18 : FlA (upd K18 x18 (ExV (.ref A_TooGreat) (some d18) x18)) (.ref x18) A_TooGreat "number" (.int y) := ⟨x18, d18, rfl, upd_same, h_keep hd18 nx18⟩
    have tH26 := Same.new0 (o := (ExV (.ref A_TooGreat) (some d18) x18)) nx18
    replace s0 := s0.trans tH26
    replace hla := tH26 _ _ hla
    replace acc := plSame acc tH26
    replace q17 := q17.same tH26
    replace e_w3 := tH26 _ _ e_w3
    generalize upd K18 x18 (ExV (.ref A_TooGreat) (some d18) x18) = H26 at *
    walk_at "go"
    refine ⟨_, rfl, fun d19 K19 x19 nd19 sd19 hd19 nx19 => ?_⟩
    replace s0 := s0.trans sd19
    replace hla := sd19 _ _ hla
    replace acc := plSame acc sd19
    replace q17 := q17.same sd19
    replace e_w3 := sd19 _ _ e_w3
    replace q18 := q18.same sd19
    have q19 : FlA (upd K19 x19 (ExV (.ref A_InvalidWords) (some d19) x19)) (.ref x19) A_InvalidWords "spot" (.int z) := ⟨x19, d19, rfl, upd_same, h_keep hd19 nx19⟩
    have tH27 := Same.new0 (o := (ExV (.ref A_InvalidWords) (some d19) x19)) nx19
    replace s0 := s0.trans tH27
    replace hla := tH27 _ _ hla
    replace acc := plSame acc tH27
    replace q17 := q17.same tH27
    replace e_w3 := tH27 _ _ e_w3
    replace q18 := q18.same tH27
    generalize upd K19 x19 (ExV (.ref A_InvalidWords) (some d19) x19) = H27 at *
    walk_at "go"
    refine ⟨_, rfl, fun d20 K20 x20 nd20 sd20 hd20 nx20 => ?_⟩
    replace s0 := s0.trans sd20
    replace hla := sd20 _ _ hla
    replace acc := plSame acc sd20
    replace q17 := q17.same sd20
    replace e_w3 := sd20 _ _ e_w3
    replace q18 := q18.same sd20
    replace q19 := q19.same sd20
    have q20 : FlA (upd K20 x20 (ExV (.ref A_UnknownName) (some d20) x20)) (.ref x20) A_UnknownName "name" (.str n) := ⟨x20, d20, rfl, upd_same, h_keep hd20 nx20⟩
    have tH28 := Same.new0 (o := (ExV (.ref A_UnknownName) (some d20) x20)) nx20
    replace s0 := s0.trans tH28
    replace hla := tH28 _ _ hla
    replace acc := plSame acc tH28
    replace q17 := q17.same tH28
    replace e_w3 := tH28 _ _ e_w3
    replace q18 := q18.same tH28
    replace q19 := q19.same tH28
    generalize upd K20 x20 (ExV (.ref A_UnknownName) (some d20) x20) = H28 at *
    walk_at "go"
    intro m4 nm4
    have e_m4 : upd H28 m4 (.lst [V.ref x18, V.ref x19, V.ref x20]) m4 = some (.lst [V.ref x18, V.ref x19, V.ref x20]) := upd_same
    have tH29 := Same.new0 (o := (.lst [V.ref x18, V.ref x19, V.ref x20])) nm4
    replace s0 := s0.trans tH29
    replace hla := tH29 _ _ hla
    replace acc := plSame acc tH29
    replace q17 := q17.same tH29
    replace e_w3 := tH29 _ _ e_w3
    replace q18 := q18.same tH29
    replace q19 := q19.same tH29
    replace q20 := q20.same tH29
    generalize upd H28 m4 (.lst [V.ref x18, V.ref x19, V.ref x20]) = H29 at *
    walk_at "go"
    intro w4 nw4
    have e_w4 : upd H29 w4 (.lst ([V.ref x0, V.ref x1, V.ref x2, V.ref x3, V.ref x4, V.ref x5, V.ref x6, V.ref x7, V.ref x8, V.ref x9, V.ref x10, V.ref x11, V.ref x12, V.ref x13, V.ref x14, V.ref x15, V.ref x16, V.ref x17] ++ [V.ref x18, V.ref x19, V.ref x20])) w4 = some (.lst [V.ref x0, V.ref x1, V.ref x2, V.ref x3, V.ref x4, V.ref x5, V.ref x6, V.ref x7, V.ref x8, V.ref x9, V.ref x10, V.ref x11, V.ref x12, V.ref x13, V.ref x14, V.ref x15, V.ref x16, V.ref x17, V.ref x18, V.ref x19, V.ref x20]) := upd_same
    have tH30 := Same.new0 (o := (.lst ([V.ref x0, V.ref x1, V.ref x2, V.ref x3, V.ref x4, V.ref x5, V.ref x6, V.ref x7, V.ref x8, V.ref x9, V.ref x10, V.ref x11, V.ref x12, V.ref x13, V.ref x14, V.ref x15, V.ref x16, V.ref x17] ++ [V.ref x18, V.ref x19, V.ref x20]))) nw4
    replace s0 := s0.trans tH30
    replace hla := tH30 _ _ hla
    replace acc := plSame acc tH30
    replace q17 := q17.same tH30
    replace e_w3 := tH30 _ _ e_w3
    replace q18 := q18.same tH30
    replace q19 := q19.same tH30
    replace q20 := q20.same tH30
    replace e_m4 := tH30 _ _ e_m4
    generalize upd H29 w4 (.lst ([V.ref x0, V.ref x1, V.ref x2, V.ref x3, V.ref x4, V.ref x5, V.ref x6, V.ref x7, V.ref x8, V.ref x9, V.ref x10, V.ref x11, V.ref x12, V.ref x13, V.ref x14, V.ref x15, V.ref x16, V.ref x17] ++ [V.ref x18, V.ref x19, V.ref x20])) = H30 at *
    obtain ⟨al, ap⟩ := plAt acc
    refine k _ _ _ s0 e_w4 ⟨rfl, fun i v A hi e1 e2 => ?_, fun v A e1 e2 => ?_, fun v A e1 e2 => ?_, fun v A e1 e2 => ?_, fun v A e1 e2 => ?_⟩
    · refine ap i v A ?_ ?_
      · rw [← e1]; rcases (by omega : i = 0 ∨ i = 1 ∨ i = 2 ∨ i = 3 ∨ i = 4 ∨ i = 5 ∨ i = 6 ∨ i = 7 ∨ i = 8 ∨ i = 9 ∨ i = 10 ∨ i = 11 ∨ i = 12 ∨ i = 13 ∨ i = 14 ∨ i = 15 ∨ i = 16) with rfl | rfl | rfl | rfl | rfl | rfl | rfl | rfl | rfl | rfl | rfl | rfl | rfl | rfl | rfl | rfl | rfl <;> rfl
      · rw [← e2]; rcases (by omega : i = 0 ∨ i = 1 ∨ i = 2 ∨ i = 3 ∨ i = 4 ∨ i = 5 ∨ i = 6 ∨ i = 7 ∨ i = 8 ∨ i = 9 ∨ i = 10 ∨ i = 11 ∨ i = 12 ∨ i = 13 ∨ i = 14 ∨ i = 15 ∨ i = 16) with rfl | rfl | rfl | rfl | rfl | rfl | rfl | rfl | rfl | rfl | rfl | rfl | rfl | rfl | rfl | rfl | rfl <;> rfl
    · cases e1; cases e2; exact q17
    · cases e1; cases e2; exact q18
    · cases e1; cases e2; exact q19
    · cases e1; cases e2; exact q20
end

set_option Elab.async false
set_option linter.all false
set_option maxRecDepth 100000
set_option maxHeartbeats 8000000
set_option pp.deepTerms false
set_option pp.deepTerms.threshold 12
set_option pp.maxSteps 1200

open PySem PySem.Spec PyProof.Rows L2 RT
theorem list21 : ∀ {vs : List V}, vs.length = 21 → ∃ v0 v1 v2 v3 v4 v5 v6 v7 v8 v9 v10 v11 v12 v13 v14 v15 v16 v17 v18 v19 v20, vs = [v0, v1, v2, v3, v4, v5, v6, v7, v8, v9, v10, v11, v12, v13, v14, v15, v16, v17, v18, v19, v20]
  | [v0, v1, v2, v3, v4, v5, v6, v7, v8, v9, v10, v11, v12, v13, v14, v15, v16, v17, v18, v19, v20], _ => ⟨_, _, _, _, _, _, _, _, _, _, _, _, _, _, _, _, _, _, _, _, _, rfl⟩
def spFields (AS : List Addr) : Sp := fun ws H Q _ => ∃ (lm la : Addr) (vs : List V) (x y z : Int) (n : Str), ws = [.ref lm, .ref la, .str n] ∧ H lm = some (.lst vs) ∧ Objs AS H vs x y z n ∧ H la = some (.lst [.int x, .int y, .int z]) ∧ ∀ H', Same H H' → Q (.bl true) H'
def spRaised4 (A0 A1 A2 A3 : Addr) : Sp := fun ws H Q _ => ∃ (i : Int) (u : V) (A : Addr) (f : Str), ws = [.int i, u] ∧ ((i = 0 ∧ A = A0 ∧ f = "amount") ∨ (i = 1 ∧ A = A1 ∧ f = "number") ∨ (i = 2 ∧ A = A2 ∧ f = "spot") ∨ (i = 3 ∧ A = A3 ∧ f = "name")) ∧ ∀ v H', Same H H' → FlA H' v A f u → Q v H'
section
variable {P : Program} {w : World} {K : PySem.W.Frag} {mg : Str → Option Value} {base : Heap} {A_AngleError A_InvalidPoly A_InvalidDivisor A_InvalidNumber A_InvalidOrder A_InvalidOrders A_InvalidName A_InvalidProgram A_InvalidCount A_InvalidIndex A_InvalidClaim A_NotAChain A_NoGreatest A_NoProgram A_NoneLeft A_Refused A_NothingToUndo A_InvalidCommand A_NotShort A_TooGreat A_InvalidWords A_UnknownName : Addr}

local macro_rules | `(tactic| walk_at "s") => `(tactic| (first
  | (with_reducible refine r_mkV ?_)
  | (with_reducible refine r_mkO ?_)
  | (with_reducible refine r_fldX ?_)
  ))
theorem ok_l_fields {f : Addr} {fd : FuncData} (F : Fun K "_law_fields" "_law_fields" s_l_fields f fd) (B : Bl mg) (bAll : mg "all" = none) (XI_NotShort : OwnI P w K mg base "NotShort" A_NotShort "amount") (XI_TooGreat : OwnI P w K mg base "TooGreat" A_TooGreat "number") (XI_InvalidWords : OwnI P w K mg base "InvalidWords" A_InvalidWords "spot") (XI_UnknownName : OwnI P w K mg base "UnknownName" A_UnknownName "name") (h_l_is_int : Has P w K mg base "_law_is_int" 1 ["_law_thing"] spIsI0) : FnOk P w K mg base CX0 2 f fd ["_law_made", "_law_amounts", "_law_title"] (spFields [A_InvalidPoly, A_InvalidDivisor, A_InvalidNumber, A_InvalidOrder, A_InvalidOrders, A_InvalidName, A_InvalidProgram, A_InvalidCount, A_InvalidIndex, A_InvalidClaim, A_NotAChain, A_NoGreatest, A_NoProgram, A_NoneLeft, A_Refused, A_NothingToUndo, A_InvalidCommand, A_NotShort, A_TooGreat, A_InvalidWords, A_UnknownName]) := by
  refine F.ok sc_l_fields (fun vs H Q E h => ?_) (fun cdv A outer s H vs Q E hr h => ?_)
  · obtain ⟨lm, la, vs, x, y, z, n, rfl, _⟩ := h
    rfl
  · obtain ⟨lm, la, vs, x, y, z, n, rfl, hlm, ho, hla, k⟩ := h
    obtain ⟨v0, v1, v2, v3, v4, v5, v6, v7, v8, v9, v10, v11, v12, v13, v14, v15, v16, v17, v18, v19, v20, rfl⟩ := list21 ho.len
    obtain ⟨p17, d17, rfl, h17, g17⟩ := ho.f17 _ _ rfl rfl
    obtain ⟨p18, d18, rfl, h18, g18⟩ := ho.f18 _ _ rfl rfl
    obtain ⟨p19, d19, rfl, h19, g19⟩ := ho.f19 _ _ rfl rfl
    obtain ⟨p20, d20, rfl, h20, g20⟩ := ho.f20 _ _ rfl rfl
    refine ⟨_, (pss_cons (ps_if (PW.pt (pw_or (pt_cmpR op_ne (pe_fldX XI_NotShort.fld XI_NotShort.no (pe_ix (ix_listK (K := K)) (pv 0) pe_int (fun _ _ => rfl))) (pe_ix (ix_listK (K := K)) (pv 1) pe_int (fun _ _ => rfl)) (nomark _)) (pw_or (pt_cmpR op_ne (pe_fldX XI_TooGreat.fld XI_TooGreat.no (pe_ix (ix_listK (K := K)) (pv 0) pe_int (fun _ _ => rfl))) (pe_ix (ix_listK (K := K)) (pv 1) pe_int (fun _ _ => rfl)) (nomark _)) (pw_or1 (pt_cmpR op_ne (pe_fldX XI_InvalidWords.fld XI_InvalidWords.no (pe_ix (ix_listK (K := K)) (pv 0) pe_int (fun _ _ => rfl))) (pe_ix (ix_listK (K := K)) (pv 1) pe_int (fun _ _ => rfl)) (nomark _))))))
    (pss_one (ps_ret pe_bl))
    pss_nil)
    (pss_cons (ps_set (i := 3) sc_l_fields.nd rfl (.inl rfl) (pe_lst (pa_cons (pe_fldX XI_NotShort.fld XI_NotShort.no (pe_ix (ix_listK (K := K)) (pv 0) pe_int (fun _ _ => rfl))) (pa_cons (pe_fldX XI_TooGreat.fld XI_TooGreat.no (pe_ix (ix_listK (K := K)) (pv 0) pe_int (fun _ _ => rfl))) (pa_cons (pe_fldX XI_InvalidWords.fld XI_InvalidWords.no (pe_ix (ix_listK (K := K)) (pv 0) pe_int (fun _ _ => rfl))) pa_nil)))))
    (pss_one (ps_ret (pe_and (pe_callB (call_allK (K := K)) (by rfl) bAll (by decide +kernel) (pa_cons (pe_lc (own := [("_law_field", 4)]) rfl sc_l_fields.nd (pi_list (pv 3)) (blkOk_by (N := ["_law_made", "_law_amounts", "_law_title", "_law_fields_here", "_law_field"]) (sc := defScope s_l_fields) (by decide +kernel)) (fun _ _ _ _ _ => (pg_name (i := 4) sc_l_fields.nd rfl (.inl rfl))) (fun _ _ _ _ _ => pts_nil) (fun _ _ _ _ _ => (pe_callH h_l_is_int (hr.mono (by first | decide | omega)) (pa_cons (pv 4) pa_nil)))) pa_nil)) (pe_one (pe_cmpR op_eq (pe_fldX XI_UnknownName.fld XI_UnknownName.no (pe_ix (ix_listK (K := K)) (pv 0) pe_int (fun _ _ => rfl))) (pv 2) (nomark _)))))))), ?_⟩
    walk_at "go"
    refine ⟨p17, d17, _, _, rfl, h17, g17, rfl, ?_⟩
    walk_at "go"
    refine ⟨p18, d18, _, _, rfl, h18, g18, rfl, ?_⟩
    walk_at "go"
    refine ⟨p19, d19, _, _, rfl, h19, g19, rfl, ?_⟩
    walk_at "go"
    refine ⟨p17, d17, _, _, rfl, h17, g17, rfl, ?_⟩
    walk_at "go"
    refine ⟨p18, d18, _, _, rfl, h18, g18, rfl, ?_⟩
    walk_at "go"
    refine ⟨p19, d19, _, _, rfl, h19, g19, rfl, ?_⟩
    walk_at "go"
    intro lf nlf
    have sf := Same.new0 (o := .lst [V.int x, .int y, .int z]) nlf
    have elf : upd H lf (.lst [V.int x, .int y, .int z]) lf = some (.lst ([x, y, z].map V.int)) := upd_same
    have hlm1 := sf _ _ hlm
    have h20' := sf _ _ h20
    have g20' := sf _ _ g20
    generalize upd H lf (.lst [V.int x, .int y, .int z]) = H1 at *
    walk_at "go"
    refine u_lcL (.of elf) (fun D i acc H' => acc = (List.replicate i true).map V.bl ∧ Same H1 H') ?_ ?_ ?_ ?_
    · exact fun D hD => ⟨rfl, Same.new0 hD⟩
    · exact fun D i acc H' _ _ ⟨_, s⟩ => .of (s _ _ elf)
    · rintro D i v acc H' hD hv hacc ⟨rfl, sm⟩
      have hi : i < 3 := by simpa using (List.getElem?_eq_some_iff.mp hv).1
      rw [List.getElem?_map, Option.map_eq_some_iff] at hv
      obtain ⟨q, _, rfl⟩ := hv
      walk_at "go"
      refine ⟨rfl, ?_⟩
      walk_at "go"
      refine ⟨q, rfl, ?_⟩
      exact u_push hacc (by simp; omega) ⟨by rw [List.replicate_succ', List.map_append]; rfl, Same.put sm hD⟩
    rintro D acc H' hD hacc ⟨rfl, sm⟩
    walk_at "go"
    refine r_all (.of hacc) ?_
    rw [show (List.replicate (List.map V.int [x, y, z]).length true).all id = true from rfl]
    walk_at "go"
    refine ⟨p20, d20, _, _, rfl, sm _ _ h20', sm _ _ g20', rfl, ?_⟩
    walk_at "go"
    rw [decide_eq_true rfl]
    exact k _ (sf.trans sm)

theorem ok_l_raised {f : Addr} {fd : FuncData} (F : Fun K "_law_raised" "_law_raised" s_l_raised f fd) (B : Bl mg) (X_AngleError : OwnX K mg "AngleError" A_AngleError) (XI_NotShort : OwnI P w K mg base "NotShort" A_NotShort "amount") (XI_TooGreat : OwnI P w K mg base "TooGreat" A_TooGreat "number") (XI_InvalidWords : OwnI P w K mg base "InvalidWords" A_InvalidWords "spot") (XI_UnknownName : OwnI P w K mg base "UnknownName" A_UnknownName "name") (uNotShort_AngleError : PySem.W.subIn K (.ref A_NotShort) (.ref A_AngleError) = some true) (uTooGreat_AngleError : PySem.W.subIn K (.ref A_TooGreat) (.ref A_AngleError) = some true) (uInvalidWords_AngleError : PySem.W.subIn K (.ref A_InvalidWords) (.ref A_AngleError) = some true) (uUnknownName_AngleError : PySem.W.subIn K (.ref A_UnknownName) (.ref A_AngleError) = some true) : FnOk P w K mg base CX0 3 f fd ["_law_way", "_law_worth"] (spRaised4 A_NotShort A_TooGreat A_InvalidWords A_UnknownName) := by
  refine F.ok sc_l_raised (fun vs H Q E h => ?_) (fun cdv A outer s H vs Q E hr h => ?_)
  · obtain ⟨i, u, A, f, rfl, _⟩ := h
    rfl
  · obtain ⟨i, u, A', f', rfl, hi, k⟩ := h
    refine ⟨_, (pss_cons (ps_set (i := 2) sc_l_raised.nd rfl (.inl rfl) pe_non)
    (pss_cons (ps_try_held (i := 3) rfl rfl rfl sc_l_raised.nd rfl rfl ⟨rfl, by decide, .inl X_AngleError.g⟩ takes0 (fun W pn xe tk _ =>
    (pss_cons (ps_if (pt_cmpR op_eq (pv 0) pe_int (nomark _))
    (pss_one (ps_raise rfl tk (pmk_ownI XI_NotShort (hr.mono (by first | decide | omega)) (pa_cons (pv 1) pa_nil))))
    pss_nil)
    (pss_cons (ps_if (pt_cmpR op_eq (pv 0) pe_int (nomark _))
    (pss_one (ps_raise rfl tk (pmk_ownI XI_TooGreat (hr.mono (by first | decide | omega)) (pa_cons (pv 1) pa_nil))))
    pss_nil)
    (pss_cons (ps_if (pt_cmpR op_eq (pv 0) pe_int (nomark _))
    (pss_one (ps_raise rfl tk (pmk_ownI XI_InvalidWords (hr.mono (by first | decide | omega)) (pa_cons (pv 1) pa_nil))))
    pss_nil)
    (pss_one (ps_raise rfl tk (pmk_ownI XI_UnknownName (hr.mono (by first | decide | omega)) (pa_cons (pv 1) pa_nil))))))))
    (fun a oe cls d pn hz hf => (pss_one (ps_set (i := 2) sc_l_raised.nd rfl (.inl rfl) (pv 3)))))
    (pss_one (ps_ret (pv 2))))), ?_⟩
    rcases hi with ⟨rfl, rfl, rfl⟩ | ⟨rfl, rfl, rfl⟩ | ⟨rfl, rfl, rfl⟩ | ⟨rfl, rfl, rfl⟩
    · walk_at "go"
      refine u_mkI (Q := fun cls d H' => wHeld _ _ _ _ _ _ cls d _ H') fun d H2 nd s2 hd => ⟨true, X_AngleError.catch uNotShort_AngleError, fun _ e ne => ?_, fun z => nomatch z⟩
      walk_at "go"
      intro ne2
      walk_at "go"
      exact k _ _ (s2.trans (Same.new0 ne)) ⟨e, d, rfl, upd_same, h_keep hd ne⟩
    · walk_at "go"
      refine u_mkI (Q := fun cls d H' => wHeld _ _ _ _ _ _ cls d _ H') fun d H2 nd s2 hd => ⟨true, X_AngleError.catch uTooGreat_AngleError, fun _ e ne => ?_, fun z => nomatch z⟩
      walk_at "go"
      intro ne2
      walk_at "go"
      exact k _ _ (s2.trans (Same.new0 ne)) ⟨e, d, rfl, upd_same, h_keep hd ne⟩
    · walk_at "go"
      refine u_mkI (Q := fun cls d H' => wHeld _ _ _ _ _ _ cls d _ H') fun d H2 nd s2 hd => ⟨true, X_AngleError.catch uInvalidWords_AngleError, fun _ e ne => ?_, fun z => nomatch z⟩
      walk_at "go"
      intro ne2
      walk_at "go"
      exact k _ _ (s2.trans (Same.new0 ne)) ⟨e, d, rfl, upd_same, h_keep hd ne⟩
    · walk_at "go"
      refine u_mkI (Q := fun cls d H' => wHeld _ _ _ _ _ _ cls d _ H') fun d H2 nd s2 hd => ⟨true, X_AngleError.catch uUnknownName_AngleError, fun _ e ne => ?_, fun z => nomatch z⟩
      walk_at "go"
      intro ne2
      walk_at "go"
      exact k _ _ (s2.trans (Same.new0 ne)) ⟨e, d, rfl, upd_same, h_keep hd ne⟩
end

set_option Elab.async false
set_option linter.all false
set_option maxRecDepth 100000
set_option maxHeartbeats 8000000
set_option pp.deepTerms false
set_option pp.deepTerms.threshold 12
set_option pp.maxSteps 1200

open PySem PySem.Spec PyProof.Rows L2 RT
section
variable {P : Program} {w : World} {K : PySem.W.Frag} {mg : Str → Option Value} {base : Heap} {A_AngleError A_InvalidPoly A_InvalidDivisor A_InvalidNumber A_InvalidOrder A_InvalidOrders A_InvalidName A_InvalidProgram A_InvalidCount A_InvalidIndex A_InvalidClaim A_NotAChain A_NoGreatest A_NoProgram A_NoneLeft A_Refused A_NothingToUndo A_InvalidCommand A_NotShort A_TooGreat A_InvalidWords A_UnknownName : Addr}

local macro_rules | `(tactic| walk_at "s") => `(tactic| (first
  | (with_reducible refine r_mkV ?_)
  | (with_reducible refine r_fldX ?_)
  ))
theorem ok_law {f : Addr} {fd : FuncData} (F : Fun K "law" "law" s_law f fd) (B : Bl mg) (bLen : mg "len" = none) (bRange : mg "range" = none) (bAny : mg "any" = none) (bIsi : mg "isinstance" = none) (bVE : mg "ValueError" = none) (X_InvalidPoly : OwnX K mg "InvalidPoly" A_InvalidPoly) (X_InvalidDivisor : OwnX K mg "InvalidDivisor" A_InvalidDivisor) (X_InvalidNumber : OwnX K mg "InvalidNumber" A_InvalidNumber) (X_InvalidOrder : OwnX K mg "InvalidOrder" A_InvalidOrder) (X_InvalidOrders : OwnX K mg "InvalidOrders" A_InvalidOrders) (X_InvalidName : OwnX K mg "InvalidName" A_InvalidName) (X_InvalidProgram : OwnX K mg "InvalidProgram" A_InvalidProgram) (X_InvalidCount : OwnX K mg "InvalidCount" A_InvalidCount) (X_InvalidIndex : OwnX K mg "InvalidIndex" A_InvalidIndex) (X_InvalidClaim : OwnX K mg "InvalidClaim" A_InvalidClaim) (X_NotAChain : OwnX K mg "NotAChain" A_NotAChain) (X_NoGreatest : OwnX K mg "NoGreatest" A_NoGreatest) (X_NoProgram : OwnX K mg "NoProgram" A_NoProgram) (X_NoneLeft : OwnX K mg "NoneLeft" A_NoneLeft) (X_Refused : OwnX K mg "Refused" A_Refused) (X_NothingToUndo : OwnX K mg "NothingToUndo" A_NothingToUndo) (X_InvalidCommand : OwnX K mg "InvalidCommand" A_InvalidCommand) (X_AngleError : OwnX K mg "AngleError" A_AngleError) (XI_NotShort : OwnI P w K mg base "NotShort" A_NotShort "amount") (XK_NotShort : OwnKw P w K mg base A_NotShort "amount") (XI_TooGreat : OwnI P w K mg base "TooGreat" A_TooGreat "number") (XK_TooGreat : OwnKw P w K mg base A_TooGreat "number") (XI_InvalidWords : OwnI P w K mg base "InvalidWords" A_InvalidWords "spot") (XK_InvalidWords : OwnKw P w K mg base A_InvalidWords "spot") (XI_UnknownName : OwnI P w K mg base "UnknownName" A_UnknownName "name") (XK_UnknownName : OwnKw P w K mg base A_UnknownName "name")
   (uMat : matB K [A_InvalidPoly, A_InvalidDivisor, A_InvalidNumber, A_InvalidOrder, A_InvalidOrders, A_InvalidName, A_InvalidProgram, A_InvalidCount, A_InvalidIndex, A_InvalidClaim, A_NotAChain, A_NoGreatest, A_NoProgram, A_NoneLeft, A_Refused, A_NothingToUndo, A_InvalidCommand, A_NotShort, A_TooGreat, A_InvalidWords, A_UnknownName] = true) (uAng : angB K A_AngleError [A_InvalidPoly, A_InvalidDivisor, A_InvalidNumber, A_InvalidOrder, A_InvalidOrders, A_InvalidName, A_InvalidProgram, A_InvalidCount, A_InvalidIndex, A_InvalidClaim, A_NotAChain, A_NoGreatest, A_NoProgram, A_NoneLeft, A_Refused, A_NothingToUndo, A_InvalidCommand, A_NotShort, A_TooGreat, A_InvalidWords, A_UnknownName] = true) (uVal : valB K [A_InvalidPoly, A_InvalidDivisor, A_InvalidNumber, A_InvalidOrder, A_InvalidOrders, A_InvalidName, A_InvalidProgram, A_InvalidCount, A_InvalidIndex, A_InvalidClaim, A_NotAChain, A_NoGreatest, A_NoProgram, A_NoneLeft, A_Refused, A_NothingToUndo, A_InvalidCommand, A_NotShort, A_TooGreat, A_InvalidWords, A_UnknownName] = true) (uAV : PySem.W.subIn K (.ref A_AngleError) (.type "ValueError") = some true)
   (h_l_bag_of : Has P w K mg base "_law_bag_of" 1 ["_law_cell"] spBagOf) (h_l_pick : Has P w K mg base "_law_pick" 1 ["_law_bag", "_law_many"] spPick) (h_l_some_int : Has P w K mg base "_law_some_int" 3 ["_law_bag"] spSomeInt) (h_l_some_title : Has P w K mg base "_law_some_title" 2 ["_law_bag"] spTitle)
   (h_l_truths : Has P w K mg base "_law_truths" 1 ["_law_thing"] (spTruths K [A_InvalidPoly, A_InvalidDivisor, A_InvalidNumber, A_InvalidOrder, A_InvalidOrders, A_InvalidName, A_InvalidProgram, A_InvalidCount, A_InvalidIndex, A_InvalidClaim, A_NotAChain, A_NoGreatest, A_NoProgram, A_NoneLeft, A_Refused, A_NothingToUndo, A_InvalidCommand, A_NotShort, A_TooGreat, A_InvalidWords, A_UnknownName])) (h_l_objects : Has P w K mg base "_law_objects" 3 ["_law_text", "_law_amounts", "_law_title"] (spObjects [A_InvalidPoly, A_InvalidDivisor, A_InvalidNumber, A_InvalidOrder, A_InvalidOrders, A_InvalidName, A_InvalidProgram, A_InvalidCount, A_InvalidIndex, A_InvalidClaim, A_NotAChain, A_NoGreatest, A_NoProgram, A_NoneLeft, A_Refused, A_NothingToUndo, A_InvalidCommand, A_NotShort, A_TooGreat, A_InvalidWords, A_UnknownName])) (h_l_fields : Has P w K mg base "_law_fields" 2 ["_law_made", "_law_amounts", "_law_title"] (spFields [A_InvalidPoly, A_InvalidDivisor, A_InvalidNumber, A_InvalidOrder, A_InvalidOrders, A_InvalidName, A_InvalidProgram, A_InvalidCount, A_InvalidIndex, A_InvalidClaim, A_NotAChain, A_NoGreatest, A_NoProgram, A_NoneLeft, A_Refused, A_NothingToUndo, A_InvalidCommand, A_NotShort, A_TooGreat, A_InvalidWords, A_UnknownName]))
   (h_l_raised : Has P w K mg base "_law_raised" 3 ["_law_way", "_law_worth"] (spRaised4 A_NotShort A_TooGreat A_InvalidWords A_UnknownName)) : FnOk P w K mg base CX0 5 f fd ["_law_script"] (spLaw K) := by
  have hkA : ∀ A ∈ [A_InvalidPoly, A_InvalidDivisor, A_InvalidNumber, A_InvalidOrder, A_InvalidOrders, A_InvalidName, A_InvalidProgram, A_InvalidCount, A_InvalidIndex, A_InvalidClaim, A_NotAChain, A_NoGreatest, A_NoProgram, A_NoneLeft, A_Refused, A_NothingToUndo, A_InvalidCommand, A_NotShort, A_TooGreat, A_InvalidWords, A_UnknownName], KitA K A := List.forall_mem_cons.mpr ⟨fun cls b s ne => X_InvalidPoly.kit s ne, List.forall_mem_cons.mpr ⟨fun cls b s ne => X_InvalidDivisor.kit s ne, List.forall_mem_cons.mpr ⟨fun cls b s ne => X_InvalidNumber.kit s ne, List.forall_mem_cons.mpr ⟨fun cls b s ne => X_InvalidOrder.kit s ne, List.forall_mem_cons.mpr ⟨fun cls b s ne => X_InvalidOrders.kit s ne, List.forall_mem_cons.mpr ⟨fun cls b s ne => X_InvalidName.kit s ne, List.forall_mem_cons.mpr ⟨fun cls b s ne => X_InvalidProgram.kit s ne, List.forall_mem_cons.mpr ⟨fun cls b s ne => X_InvalidCount.kit s ne, List.forall_mem_cons.mpr ⟨fun cls b s ne => X_InvalidIndex.kit s ne, List.forall_mem_cons.mpr ⟨fun cls b s ne => X_InvalidClaim.kit s ne, List.forall_mem_cons.mpr ⟨fun cls b s ne => X_NotAChain.kit s ne, List.forall_mem_cons.mpr ⟨fun cls b s ne => X_NoGreatest.kit s ne, List.forall_mem_cons.mpr ⟨fun cls b s ne => X_NoProgram.kit s ne, List.forall_mem_cons.mpr ⟨fun cls b s ne => X_NoneLeft.kit s ne, List.forall_mem_cons.mpr ⟨fun cls b s ne => X_Refused.kit s ne, List.forall_mem_cons.mpr ⟨fun cls b s ne => X_NothingToUndo.kit s ne, List.forall_mem_cons.mpr ⟨fun cls b s ne => X_InvalidCommand.kit s ne, List.forall_mem_cons.mpr ⟨fun cls b s ne => XI_NotShort.kit s ne, List.forall_mem_cons.mpr ⟨fun cls b s ne => XI_TooGreat.kit s ne, List.forall_mem_cons.mpr ⟨fun cls b s ne => XI_InvalidWords.kit s ne, List.forall_mem_cons.mpr ⟨fun cls b s ne => XI_UnknownName.kit s ne, fun _ h => nomatch h⟩⟩⟩⟩⟩⟩⟩⟩⟩⟩⟩⟩⟩⟩⟩⟩⟩⟩⟩⟩⟩
  have hkE : ∀ A ∈ [A_InvalidPoly, A_InvalidDivisor, A_InvalidNumber, A_InvalidOrder, A_InvalidOrders, A_InvalidName, A_InvalidProgram, A_InvalidCount, A_InvalidIndex, A_InvalidClaim, A_NotAChain, A_NoGreatest, A_NoProgram, A_NoneLeft, A_Refused, A_NothingToUndo, A_InvalidCommand, A_NotShort, A_TooGreat, A_InvalidWords, A_UnknownName], ExcTy K A := List.forall_mem_cons.mpr ⟨X_InvalidPoly.e, List.forall_mem_cons.mpr ⟨X_InvalidDivisor.e, List.forall_mem_cons.mpr ⟨X_InvalidNumber.e, List.forall_mem_cons.mpr ⟨X_InvalidOrder.e, List.forall_mem_cons.mpr ⟨X_InvalidOrders.e, List.forall_mem_cons.mpr ⟨X_InvalidName.e, List.forall_mem_cons.mpr ⟨X_InvalidProgram.e, List.forall_mem_cons.mpr ⟨X_InvalidCount.e, List.forall_mem_cons.mpr ⟨X_InvalidIndex.e, List.forall_mem_cons.mpr ⟨X_InvalidClaim.e, List.forall_mem_cons.mpr ⟨X_NotAChain.e, List.forall_mem_cons.mpr ⟨X_NoGreatest.e, List.forall_mem_cons.mpr ⟨X_NoProgram.e, List.forall_mem_cons.mpr ⟨X_NoneLeft.e, List.forall_mem_cons.mpr ⟨X_Refused.e, List.forall_mem_cons.mpr ⟨X_NothingToUndo.e, List.forall_mem_cons.mpr ⟨X_InvalidCommand.e, List.forall_mem_cons.mpr ⟨XI_NotShort.ty, List.forall_mem_cons.mpr ⟨XI_TooGreat.ty, List.forall_mem_cons.mpr ⟨XI_InvalidWords.ty, List.forall_mem_cons.mpr ⟨XI_UnknownName.ty, fun _ h => nomatch h⟩⟩⟩⟩⟩⟩⟩⟩⟩⟩⟩⟩⟩⟩⟩⟩⟩⟩⟩⟩⟩
  have hkB : KitA K A_AngleError := fun cls b s ne => X_AngleError.kit s ne
  refine F.ok sc_law (fun vs H Q E h => ?_) (fun cdv A outer s H vs Q E hr h => ?_)
  · obtain ⟨a, ns, rfl, _⟩ := h
    rfl
  · obtain ⟨a, ns, rfl, hS, hlen, k⟩ := h
    refine ⟨_, (pss_cons (ps_set (i := 1) sc_law.nd rfl (.inl rfl) pe_int)
    (pss_cons (ps_for PassesOwn.never rfl (pi_list (pe_op op_cat (pe_lst (pa_cons (pv 1) pa_nil)) (pe_slice sl_list (pv 0) po_none (po_some pe_int)))) (pg_name (i := 2) sc_law.nd rfl (.inl rfl))
    (pss_cons (ps_set (i := 3) sc_law.nd rfl (.inr rfl) (pe_callH h_l_bag_of (hr.mono (by first | decide | omega)) (pa_cons (pv 2) pa_nil)))
    (pss_cons (ps_set (i := 4) sc_law.nd rfl (.inr rfl) pe_str)
    (pss_cons (ps_set (i := 5) sc_law.nd rfl (.inl rfl) (pe_join pe_str (pe_lc (own := [("_law_k", 10)]) rfl sc_law.nd (pi_range1 (by rfl) bRange (pa_cons (pe_callH h_l_pick (hr.mono (by first | decide | omega)) (pa_cons (pv 3) (pa_cons pe_int pa_nil))) pa_nil)) (blkOk_by (N := ["_law_script", "_law_great", "_law_cell", "_law_bag", "_law_chars", "_law_text", "_law_amounts", "_law_title", "_law_made", "_law_others", "_law_k", "_law_at"]) (sc := defScope s_law) (by decide +kernel)) (fun _ _ _ _ _ => (pg_name (i := 10) sc_law.nd rfl (.inl rfl))) (fun _ _ _ _ _ => pts_nil) (fun _ _ _ _ _ => (pe_ix ix_str (pv 4) (pe_callH h_l_pick (hr.mono (by first | decide | omega)) (pa_cons (pv 3) (pa_cons (pe_callB call_lenS (by rfl) bLen PySem.boot_len (pa_cons (pv 4) pa_nil)) pa_nil))) (fun _ _ => rfl))))))
    (pss_cons (ps_set (i := 6) sc_law.nd rfl (.inl rfl) (pe_lst (pa_cons (pe_callH h_l_some_int (hr.mono (by first | decide | omega)) (pa_cons (pv 3) pa_nil)) (pa_cons (pe_callH h_l_some_int (hr.mono (by first | decide | omega)) (pa_cons (pv 3) pa_nil)) (pa_cons (pe_callH h_l_some_int (hr.mono (by first | decide | omega)) (pa_cons (pv 3) pa_nil)) pa_nil)))))
    (pss_cons (ps_set (i := 7) sc_law.nd rfl (.inl rfl) (pe_callH h_l_some_title (hr.mono (by first | decide | omega)) (pa_cons (pv 3) pa_nil)))
    (pss_cons (ps_set (i := 8) sc_law.nd rfl (.inl rfl) (pe_callH h_l_objects (hr.mono (by first | decide | omega)) (pa_cons (pv 5) (pa_cons (pv 6) (pa_cons (pv 7) pa_nil)))))
    (pss_cons (ps_set (i := 9) sc_law.nd rfl (.inl rfl) (pe_callH h_l_objects (hr.mono (by first | decide | omega)) (pa_cons (pv 5) (pa_cons (pe_lst (pa_cons (pe_op op_add (pe_ix (ix_listK (K := K)) (pv 6) pe_int (fun _ _ => rfl)) pe_int) (pa_cons (pe_ix (ix_listK (K := K)) (pv 6) pe_int (fun _ _ => rfl)) (pa_cons (pe_ix (ix_listK (K := K)) (pv 6) pe_int (fun _ _ => rfl)) pa_nil)))) (pa_cons (pe_op op_add_str (pv 7) pe_str) pa_nil)))))
    (pss_cutM (ps_for PassesOwn.never rfl (pi_range1 (by rfl) bRange (pa_cons pe_int pa_nil)) (pg_name (i := 10) sc_law.nd rfl (.inr rfl))
    (pss_cutM (ps_if (PW.pt (pw_or (pt_not (pt_val (pe_callB (call_isiEK (K := K)) (by rfl) bIsi (by decide +kernel) (pa_cons (pe_ix (ix_listK (K := K)) (pv 8) (pv 10) (fun _ _ => rfl)) (pa_cons (pe_glob (v := .ref A_AngleError) rfl X_AngleError.g rfl) pa_nil))))) (pw_or1 (pt_not (pt_val (pe_callB (call_isiEK (K := K)) (by rfl) bIsi (by decide +kernel) (pa_cons (pe_ix (ix_listK (K := K)) (pv 8) (pv 10) (fun _ _ => rfl)) (pa_cons (pe_bltn (v := .ty "ValueError") (by rfl) bVE (by decide +kernel) rfl) pa_nil))))))))
    (pss_one (ps_ret pe_bl))
    pss_nil)
    (pss_one (ps_if (pt_cmpR (op_neDK (K := K) hr.units) (pe_callH h_l_truths (hr.mono (by first | decide | omega)) (pa_cons (pe_ix (ix_listK (K := K)) (pv 8) (pv 10) (fun _ _ => rfl)) pa_nil)) (pe_lc (own := [("_law_at", 11)]) rfl sc_law.nd (pi_range1 (by rfl) bRange (pa_cons pe_int pa_nil)) (blkOk_by (N := ["_law_script", "_law_great", "_law_cell", "_law_bag", "_law_chars", "_law_text", "_law_amounts", "_law_title", "_law_made", "_law_others", "_law_k", "_law_at"]) (sc := defScope s_law) (by decide +kernel)) (fun _ _ _ _ _ => (pg_name (i := 11) sc_law.nd rfl (.inl rfl))) (fun _ _ _ _ _ => pts_nil) (fun _ _ _ _ _ => (pe_cmpR op_eq (pv 10) (pv 11) (nomark _)))) (nomark _))
    (pss_one (ps_ret pe_bl))
    pss_nil))))
    (pss_cutM (ps_if (PW.pt (pw_or (pt_val (pe_callB (call_anyK (K := K)) (by rfl) bAny (by decide +kernel) (pa_cons (pe_callH h_l_truths (hr.mono (by first | decide | omega)) (pa_cons (pe_exc1 PySem.F.excBase_ValueError X_AngleError.xi X_AngleError.g X_AngleError.k rfl (pv 5)) pa_nil)) pa_nil))) (pw_or1 (pt_not (pt_val (pe_callB (call_isiEK (K := K)) (by rfl) bIsi (by decide +kernel) (pa_cons (pe_exc1 PySem.F.excBase_ValueError X_AngleError.xi X_AngleError.g X_AngleError.k rfl (pv 5)) (pa_cons (pe_bltn (v := .ty "ValueError") (by rfl) bVE (by decide +kernel) rfl) pa_nil))))))))
    (pss_one (ps_ret pe_bl))
    pss_nil)
    (pss_cutM (ps_if (pt_not (pt_val (pe_callH h_l_fields (hr.mono (by first | decide | omega)) (pa_cons (pv 8) (pa_cons (pv 6) (pa_cons (pv 7) pa_nil))))))
    (pss_one (ps_ret pe_bl))
    pss_nil)
    (pss_cutM (ps_if (pt_not (pt_val (pe_callH h_l_fields (hr.mono (by first | decide | omega)) (pa_cons (pv 9) (pa_cons (pe_lst (pa_cons (pe_op op_add (pe_ix (ix_listK (K := K)) (pv 6) pe_int (fun _ _ => rfl)) pe_int) (pa_cons (pe_ix (ix_listK (K := K)) (pv 6) pe_int (fun _ _ => rfl)) (pa_cons (pe_ix (ix_listK (K := K)) (pv 6) pe_int (fun _ _ => rfl)) pa_nil)))) (pa_cons (pe_op op_add_str (pv 7) pe_str) pa_nil))))))
    (pss_one (ps_ret pe_bl))
    pss_nil)
    (pss_cutM (ps_if (PW.pt (pw_or (pt_cmpR op_ne (pe_fldX XI_NotShort.fld XI_NotShort.no (pe_mkVK XI_NotShort XK_NotShort (hr.mono (by first | decide | omega)) (pk_cons (pe_ix (ix_listK (K := K)) (pv 6) pe_int (fun _ _ => rfl)) pk_nil))) (pe_ix (ix_listK (K := K)) (pv 6) pe_int (fun _ _ => rfl)) (nomark _)) (pw_or1 (pt_cmpR op_ne (pe_fldX XI_TooGreat.fld XI_TooGreat.no (pe_mkVK XI_TooGreat XK_TooGreat (hr.mono (by first | decide | omega)) (pk_cons (pe_ix (ix_listK (K := K)) (pv 6) pe_int (fun _ _ => rfl)) pk_nil))) (pe_ix (ix_listK (K := K)) (pv 6) pe_int (fun _ _ => rfl)) (nomark _)))))
    (pss_one (ps_ret pe_bl))
    pss_nil)
    (pss_cutM (ps_if (PW.pt (pw_or (pt_cmpR op_ne (pe_fldX XI_InvalidWords.fld XI_InvalidWords.no (pe_mkVK XI_InvalidWords XK_InvalidWords (hr.mono (by first | decide | omega)) (pk_cons (pe_ix (ix_listK (K := K)) (pv 6) pe_int (fun _ _ => rfl)) pk_nil))) (pe_ix (ix_listK (K := K)) (pv 6) pe_int (fun _ _ => rfl)) (nomark _)) (pw_or1 (pt_cmpR op_ne (pe_fldX XI_UnknownName.fld XI_UnknownName.no (pe_mkVK XI_UnknownName XK_UnknownName (hr.mono (by first | decide | omega)) (pk_cons (pv 7) pk_nil))) (pv 7) (nomark _)))))
    (pss_one (ps_ret pe_bl))
    pss_nil)
    (pss_cutM (ps_if (PW.pt (pw_or (pt_cmpR op_ne (pe_fldX XI_NotShort.fld XI_NotShort.no (pe_callH h_l_raised (hr.mono (by first | decide | omega)) (pa_cons pe_int (pa_cons (pe_ix (ix_listK (K := K)) (pv 6) pe_int (fun _ _ => rfl)) pa_nil)))) (pe_ix (ix_listK (K := K)) (pv 6) pe_int (fun _ _ => rfl)) (nomark _)) (pw_or1 (pt_cmpR op_ne (pe_fldX XI_TooGreat.fld XI_TooGreat.no (pe_callH h_l_raised (hr.mono (by first | decide | omega)) (pa_cons pe_int (pa_cons (pe_ix (ix_listK (K := K)) (pv 6) pe_int (fun _ _ => rfl)) pa_nil)))) (pe_ix (ix_listK (K := K)) (pv 6) pe_int (fun _ _ => rfl)) (nomark _)))))
    (pss_one (ps_ret pe_bl))
    pss_nil)
    (pss_cutM (ps_if (PW.pt (pw_or (pt_cmpR op_ne (pe_fldX XI_InvalidWords.fld XI_InvalidWords.no (pe_callH h_l_raised (hr.mono (by first | decide | omega)) (pa_cons pe_int (pa_cons (pe_ix (ix_listK (K := K)) (pv 6) pe_int (fun _ _ => rfl)) pa_nil)))) (pe_ix (ix_listK (K := K)) (pv 6) pe_int (fun _ _ => rfl)) (nomark _)) (pw_or1 (pt_cmpR op_ne (pe_fldX XI_UnknownName.fld XI_UnknownName.no (pe_callH h_l_raised (hr.mono (by first | decide | omega)) (pa_cons pe_int (pa_cons (pv 7) pa_nil)))) (pv 7) (nomark _)))))
    (pss_one (ps_ret pe_bl))
    pss_nil)
    (pss_one (ps_if (pt_not (pt_val (pe_callH h_l_fields (hr.mono (by first | decide | omega)) (pa_cons (pv 8) (pa_cons (pv 6) (pa_cons (pv 7) pa_nil))))))
    (pss_one (ps_ret pe_bl))
    pss_nil))))))))))))))))))
    (pss_one (ps_ret pe_bl)))), ?_⟩
    walk_at "go"
    intro g ng
    walk_at "go"
    refine r_slL ((Same.new0 ng).seq hS) ?_
    intro c nc
    refine r_cat (xs := [.int _]) (zs := cutV (ns.map V.int) none (some 8)) (by walk_at "hp") upd_same ?_ ?_
    · have := cut_len (xs := ns.map V.int) none (some 8)
      rw [List.length_map] at this
      simp
      omega
    intro l nl
    have sl : ∀ H', Same (upd (upd (upd H g (HO.lst [V.int 620078179074851243301910744185088435617012215428130165431159026782163467713240208326210831811867])) c (.lst (cutV (ns.map V.int) none (some 8)))) l (.lst ([V.int 620078179074851243301910744185088435617012215428130165431159026782163467713240208326210831811867] ++ cutV (ns.map V.int) none (some 8)))) H' → H' l = some (.lst ([V.int 620078179074851243301910744185088435617012215428130165431159026782163467713240208326210831811867] ++ cutV (ns.map V.int) none (some 8))) := fun H' sm => sm _ _ upd_same
    generalize upd (upd (upd H g _) c _) l _ = H0 at *
    refine u_forL (SqL.of (sl H0 (Same.refl _))) (fun i σ H' => ∃ y0 y1 y2 y3 y4 y5 y6 y7 y8 y9 y10 y11 : Option V, σ = [y0, y1, y2, y3, y4, y5, y6, y7, y8, y9, y10, y11] ∧ Same H0 H') ⟨_, _, _, _, _, _, _, _, _, _, _, _, rfl, Same.refl _⟩ ?_ ?_ ?_
    · rintro i σ H' _ ⟨y0, y1, y2, y3, y4, y5, y6, y7, y8, y9, y10, y11, rfl, sm⟩
      exact SqL.of (sl H' sm)
    · rintro i x σ H' hx ⟨y0, y1, y2, y3, y4, y5, y6, y7, y8, y9, y10, y11, rfl, sm⟩
      obtain ⟨cell, rfl⟩ := cells_int hx
      walk_at "go"
      refine ⟨cell, rfl, fun b H1 nb s1 b1 => ?_⟩
      walk_at "go"
      refine u_pick b1 (by decide) (by decide) fun r H2 r0 r1 bu2 b2 => ?_
      walk_at "go"
      refine u_lc1 (by omega) (fun D i acc H' => (∃ cs : List Nat, acc = (cs.map sign1).map V.str ∧ cs.length = i) ∧ But b H2 H' ∧ Bag H' b) ?_ ?_ ?_
      · exact fun D hD => ⟨⟨[], rfl, rfl⟩, But.new (But.refl _ _) hD, b2.keep hD⟩
      · rintro D i acc H' hD hi hacc ⟨⟨cs, rfl, hl⟩, bu, bg⟩
        have nDa : D ≠ b := b2.ne hD
        walk_at "go"
        refine ⟨rfl, ?_⟩
        walk_at "go"
        refine u_pick bg (by decide +kernel) (by decide +kernel) fun r2 H3 p0 p1 bu3 b3 => ?_
        obtain ⟨c', hc'⟩ := text_at (z := " !#$&()*+,-./0123456789:;<=>?@ABCXYZ[]^_abcxyz{|}~") rfl p0 p1
        refine r_ixS (by decide +kernel) hc' ?_
        have hD2 : H3 D = _ := bu3 _ _ nDa hacc
        refine u_push hD2 (by rw [List.length_map, List.length_map]; omega) ⟨⟨cs ++ [c'], ?_, ?_⟩, But.put (bu.trans bu3) hD, b3.upd nDa.symm⟩
        · rw [List.map_append, List.map_append]
          rfl
        · rw [List.length_append, List.length_singleton, hl]
      · rintro D acc H3 hD hacc ⟨⟨cs, rfl, hl⟩, bu3, b3⟩
        refine ⟨_, D, cs.map sign1, rfl, rfl, .inl (.of hacc), ?_, ?_⟩
        · rw [List.map_map, List.length_map]
          show (cs.map (fun c => (sign1 c).length)).sum + _ ≤ _
          rw [signs_len, show (("" : Str)).length = 0 by decide +kernel, hl]
          have : Int.toNat r ≤ 41 := by omega
          exact Nat.le_trans (by omega : _ ≤ 100) (by decide +kernel)
        generalize Txt.join (("" : Str)) (cs.map sign1) = text at *
        have buA := bu2.trans bu3
        clear bu2 bu3 hacc b2 r0 r1 hl
        walk_at "go"
        refine ⟨b, rfl, b3, fun x H4 x0 x1 bu4 b4 => ?_⟩
        walk_at "go"
        refine ⟨b, rfl, b4, fun y H5 y0' y1' bu5 b5 => ?_⟩
        walk_at "go"
        refine ⟨b, rfl, b5, fun z H6 z0 z1 bu6 b6 => ?_⟩
        have buB := ((buA.trans bu4).trans bu5).trans bu6
        clear buA bu4 bu5 bu6 b3 b4 b5 x0 x1 y0' y1' z0 z1
        walk_at "go"
        intro la nla
        have laB := b6.ne nla
        have b7 := b6.keep nla (o := .lst [.int x, .int y, .int z])
        have bu7 := buB.new nla (o := .lst [.int x, .int y, .int z])
        have hla : upd H6 la (.lst [.int x, .int y, .int z]) la = some (.lst [.int x, .int y, .int z]) := upd_same
        generalize upd H6 la (.lst [.int x, .int y, .int z]) = H7 at *
        clear buB b6 nla
        walk_at "go"
        refine ⟨b, rfl, b7, fun n H8 bu8 b8 hn => ?_⟩
        have hla := bu8 _ _ laB hla
        have bu8' := bu7.trans bu8
        clear bu7 bu8 b7
        walk_at "go"
        refine ⟨text, n, la, x, y, z, rfl, hla, fun lm vs H9 s9 hlm ho => ?_⟩
        have hla := s9 _ _ hla
        walk_at "go"
        intro l2 nl2
        have s10 := Same.new0 (o := .lst [.int (y + 1), .int z, .int x]) nl2
        have hl2 : upd H9 l2 (.lst [.int (y + 1), .int z, .int x]) l2 = some (.lst [.int (y + 1), .int z, .int x]) := upd_same
        replace hla := s10 _ _ hla
        replace hlm := s10 _ _ hlm
        replace ho := ho.same s10
        have sA := s9.trans s10
        generalize upd H9 l2 (.lst [.int (y + 1), .int z, .int x]) = H10 at *
        clear s9 s10 nl2
        walk_at "go"
        have ha1 : (("a" : Str)).length = 1 := by decide +kernel
        refine ⟨n, "a", rfl, rfl, by rw [ha1, sizeLine_eq]; omega, ?_⟩
        walk_at "go"
        refine ⟨text, n ++ "a", l2, y + 1, z, x, rfl, hl2, fun lo ws H11 s11 hlo ho2 => ?_⟩
        have hla := s11 _ _ hla
        have hlm := s11 _ _ hlm
        have ho := ho.same s11
        have buZ := bu8'.trans (Same.but (sA.trans s11) b)
        clear hl2 sA s11 bu8' b8
        have L21 : ([A_InvalidPoly, A_InvalidDivisor, A_InvalidNumber, A_InvalidOrder, A_InvalidOrders, A_InvalidName, A_InvalidProgram, A_InvalidCount, A_InvalidIndex, A_InvalidClaim, A_NotAChain, A_NoGreatest, A_NoProgram, A_NoneLeft, A_Refused, A_NothingToUndo, A_InvalidCommand, A_NotShort, A_TooGreat, A_InvalidWords, A_UnknownName] : List Addr).length = 21 := rfl
        refine r_cut (fun σ H' => ∃ z10 z11 : Option V, σ = [y0, y1, some (.int cell), some (.ref b), some (.str " !#$&()*+,-./0123456789:;<=>?@ABCXYZ[]^_abcxyz{|}~"), some (.str text), some (.ref la), some (.str n), some (.ref lm), some (.ref lo), z10, z11] ∧ Same H11 H') ?_ ?_
        · walk_at "go"
          refine u_for1 ⟨by omega, by omega⟩ (fun i σ H' => ∃ z10 z11 : Option V, σ = [y0, y1, some (.int cell), some (.ref b), some (.str " !#$&()*+,-./0123456789:;<=>?@ABCXYZ[]^_abcxyz{|}~"), some (.str text), some (.ref la), some (.str n), some (.ref lm), some (.ref lo), z10, z11] ∧ Same H11 H') ?_ ?_ ?_
          · exact ⟨_, _, rfl, Same.refl _⟩
          · rintro i σ H' hi ⟨z10, z11, rfl, sm'⟩
            have hi21 : i < 21 := by omega
            obtain ⟨v, hv⟩ : ∃ v, vs[i]? = some v := ⟨_, List.getElem?_eq_getElem (by rw [ho.len]; exact hi21)⟩
            obtain ⟨A', hA⟩ : ∃ A', ([A_InvalidPoly, A_InvalidDivisor, A_InvalidNumber, A_InvalidOrder, A_InvalidOrders, A_InvalidName, A_InvalidProgram, A_InvalidCount, A_InvalidIndex, A_InvalidClaim, A_NotAChain, A_NoGreatest, A_NoProgram, A_NoneLeft, A_Refused, A_NothingToUndo, A_InvalidCommand, A_NotShort, A_TooGreat, A_InvalidWords, A_UnknownName] : List Addr)[i]? = some A' := ⟨_, List.getElem?_eq_getElem (by rw [L21]; exact hi21)⟩
            have mA := List.mem_of_getElem? hA
            have ty : ∀ Hx, Same H11 Hx → TyE K Hx v (.ref A') := fun Hx sx => by
              by_cases h17 : i < 17
              · obtain ⟨p, rfl, hp⟩ := (ho.same sx).pl i v A' h17 hv hA
                exact .exc hp (hkE _ mA)
              · rcases (by omega : i = 17 ∨ i = 18 ∨ i = 19 ∨ i = 20) with rfl | rfl | rfl | rfl
                · obtain ⟨p, d, rfl, hp, hd⟩ := (ho.same sx).f17 v A' hv hA
                  exact .exd hp hd (hkE _ mA)
                · obtain ⟨p, d, rfl, hp, hd⟩ := (ho.same sx).f18 v A' hv hA
                  exact .exd hp hd (hkE _ mA)
                · obtain ⟨p, d, rfl, hp, hd⟩ := (ho.same sx).f19 v A' hv hA
                  exact .exd hp hd (hkE _ mA)
                · obtain ⟨p, d, rfl, hp, hd⟩ := (ho.same sx).f20 v A' hv hA
                  exact .exd hp hd (hkE _ mA)
            refine r_cut (fun σ H' => ∃ z11 : Option V, σ = [y0, y1, some (.int cell), some (.ref b), some (.str " !#$&()*+,-./0123456789:;<=>?@ABCXYZ[]^_abcxyz{|}~"), some (.str text), some (.ref la), some (.str n), some (.ref lm), some (.ref lo), some (.int i), z11] ∧ Same H11 H') ?_ ?_
            · walk_at "go"
              refine r_ixL (.of (sm' _ _ hlm)) (atI_get hv) ?_
              walk_at "go"
              refine r_isiE' (.own _) (ty _ sm') (ang_kit uAng hkA hkB mA).1 ?_
              walk_at "go"
              refine r_ixL (.of (sm' _ _ hlm)) (atI_get hv) ?_
              walk_at "go"
              refine r_isiE' (.ty _) (ty _ sm') (val_kit uVal mA) ?_
              walk_at "go"
              exact ⟨_, rfl, sm'⟩
            rintro σ H2' ⟨w11, rfl, sm2⟩
            walk_at "go"
            refine r_ixL (.of (sm2 _ _ hlm)) (atI_get hv) ?_
            walk_at "go"
            refine ⟨v, .ref A', i, rfl, fun Hx sx => ty Hx (sm2.trans sx), fun j Aj hj => mat_kit uMat hkA hA hj, fun lt Hx sx hlt => ?_⟩
            walk_at "go"
            refine u_lc1 ⟨by omega, by omega⟩ (fun D j acc H' => acc = ((List.range j).map fun m => decide (i = m)).map V.bl ∧ Same Hx H') ?_ ?_ ?_
            · exact fun D hD => ⟨rfl, Same.new0 hD⟩
            · rintro D j acc Hy hD hj hacc ⟨rfl, sy⟩
              walk_at "go"
              refine ⟨rfl, ?_⟩
              walk_at "go"
              refine u_push hacc (by simp; omega) ⟨?_, Same.put sy hD⟩
              rw [List.range_succ, List.map_append, List.map_append]
              congr 2
              simp
              omega
            rintro D acc Hy hD hacc ⟨rfl, sy⟩
            have hlt' := sy _ _ hlt
            have e21 : tru21 i = ((List.range (Int.toNat 21)).map fun m => decide (i = m)).map V.bl := by
              unfold tru21
              rw [List.map_map]
              rfl
            rw [e21] at hlt'
            refine r_ne5 hlt' hacc ?_
            walk_at "go"
            exact ⟨_, _, rfl, (sm2.trans sx).trans sy⟩
          · rintro σ H' ⟨z10, z11, rfl, sm'⟩
            exact ⟨_, _, rfl, sm'⟩
        rintro σ H12 ⟨z10, z11, rfl, s12⟩
        replace hla := s12 _ _ hla
        replace hlm := s12 _ _ hlm
        replace hlo := s12 _ _ hlo
        replace ho := ho.same s12
        replace ho2 := ho2.same s12
        replace buZ := buZ.trans (Same.but s12 b)
        clear s12
        refine r_cut (fun σ H' => σ = [y0, y1, some (.int cell), some (.ref b), some (.str " !#$&()*+,-./0123456789:;<=>?@ABCXYZ[]^_abcxyz{|}~"), some (.str text), some (.ref la), some (.str n), some (.ref lm), some (.ref lo), z10, z11] ∧ Same H12 H') ?_ ?_
        · walk_at "go"
          intro xa nxa
          have sx := Same.new0 (o := ExO (.ref A_AngleError) xa) nxa
          have hxa : upd H12 xa (ExO (.ref A_AngleError) xa) xa = some (ExO (.ref A_AngleError) xa) := upd_same
          generalize upd H12 xa (ExO (.ref A_AngleError) xa) = H13 at *
          walk_at "go"
          refine ⟨.ref xa, .ref A_AngleError, 21, rfl, fun Hx s' => .exc (s' _ _ hxa) X_AngleError.e, fun j Aj hj => ?_, fun lt Hx s' hlt => ?_⟩
          · have hj21 := (List.getElem?_eq_some_iff.mp hj).1
            rw [L21] at hj21
            rw [(ang_kit uAng hkA hkB (List.mem_of_getElem? hj)).2, decide_eq_false (by omega)]
          have e21 : tru21 21 = ((List.range 21).map fun m => decide (21 = m)).map V.bl := by
            unfold tru21
            rw [List.map_map]
            rfl
          rw [e21] at hlt
          walk_at "go"
          refine r_any (.of hlt) ?_
          rw [show ((List.range 21).map fun m => decide (21 = m)).any id = false by decide +kernel]
          walk_at "go"
          intro xb nxb
          walk_at "go"
          refine r_isiE' (.ty _) (.exc upd_same X_AngleError.e) (kit_ownB uAV) ?_
          walk_at "go"
          exact ⟨rfl, (sx.trans s').trans (Same.new0 nxb)⟩
        rintro σ H13 ⟨rfl, s13⟩
        replace hla := s13 _ _ hla
        replace hlm := s13 _ _ hlm
        replace hlo := s13 _ _ hlo
        replace ho := ho.same s13
        replace ho2 := ho2.same s13
        replace buZ := buZ.trans (Same.but s13 b)
        clear s13
        refine r_cut (fun σ H' => σ = [y0, y1, some (.int cell), some (.ref b), some (.str " !#$&()*+,-./0123456789:;<=>?@ABCXYZ[]^_abcxyz{|}~"), some (.str text), some (.ref la), some (.str n), some (.ref lm), some (.ref lo), z10, z11] ∧ Same H13 H') ?_ ?_
        · walk_at "go"
          refine ⟨lm, la, vs, x, y, z, n, rfl, hlm, ho, hla, fun Hx sx => ?_⟩
          walk_at "go"
          exact ⟨rfl, sx⟩
        rintro σ H14 ⟨rfl, s14⟩
        refine r_cut (fun σ H' => σ = [y0, y1, some (.int cell), some (.ref b), some (.str " !#$&()*+,-./0123456789:;<=>?@ABCXYZ[]^_abcxyz{|}~"), some (.str text), some (.ref la), some (.str n), some (.ref lm), some (.ref lo), z10, z11] ∧ Same H13 H') ?_ ?_
        · have hla' := s14 _ _ hla
          walk_at "go"
          intro l3 nl3
          have s3 := Same.new0 (o := .lst [.int (y + 1), .int z, .int x]) nl3
          have hl3 : upd H14 l3 (.lst [.int (y + 1), .int z, .int x]) l3 = some (.lst [.int (y + 1), .int z, .int x]) := upd_same
          generalize upd H14 l3 (.lst [.int (y + 1), .int z, .int x]) = H15 at *
          walk_at "go"
          have ha1 : (("a" : Str)).length = 1 := by decide +kernel
          refine ⟨n, "a", rfl, rfl, by rw [ha1, sizeLine_eq]; omega, ?_⟩
          walk_at "go"
          refine ⟨lo, l3, ws, y + 1, z, x, n ++ "a", rfl, s3 _ _ (s14 _ _ hlo), (ho2.same s14).same s3, hl3, fun Hx sx => ?_⟩
          walk_at "go"
          exact ⟨rfl, (s14.trans s3).trans sx⟩
        rintro σ H15 ⟨rfl, s15⟩
        clear s14
        replace hla := s15 _ _ hla
        refine r_cut (fun σ H' => σ = [y0, y1, some (.int cell), some (.ref b), some (.str " !#$&()*+,-./0123456789:;<=>?@ABCXYZ[]^_abcxyz{|}~"), some (.str text), some (.ref la), some (.str n), some (.ref lm), some (.ref lo), z10, z11] ∧ Same H15 H') ?_ ?_
        · walk_at "go"
          refine ⟨_, rfl, fun d K1 p nd sd hd np => ?_⟩
          refine ⟨p, d, _, _, rfl, upd_same, h_keep hd np, rfl, ?_⟩
          have sK := sd.trans (Same.new0 (o := ExV (.ref A_NotShort) (some d) p) np)
          have hla1 := sK _ _ hla
          generalize upd K1 p (ExV (.ref A_NotShort) (some d) p) = K2 at *
          walk_at "go"
          refine ⟨_, rfl, fun d' K3 p' nd' sd' hd' np' => ?_⟩
          refine ⟨p', d', _, _, rfl, upd_same, h_keep hd' np', rfl, ?_⟩
          have sK' := sd'.trans (Same.new0 (o := ExV (.ref A_TooGreat) (some d') p') np')
          have hla2 := sK' _ _ hla1
          generalize upd K3 p' (ExV (.ref A_TooGreat) (some d') p') = K4 at *
          walk_at "go"
          exact ⟨rfl, sK.trans sK'⟩
        rintro σ H16 ⟨rfl, s16⟩
        replace hla := s16 _ _ hla
        refine r_cut (fun σ H' => σ = [y0, y1, some (.int cell), some (.ref b), some (.str " !#$&()*+,-./0123456789:;<=>?@ABCXYZ[]^_abcxyz{|}~"), some (.str text), some (.ref la), some (.str n), some (.ref lm), some (.ref lo), z10, z11] ∧ Same H16 H') ?_ ?_
        · walk_at "go"
          refine ⟨_, rfl, fun d K1 p nd sd hd np => ?_⟩
          refine ⟨p, d, _, _, rfl, upd_same, h_keep hd np, rfl, ?_⟩
          have sK := sd.trans (Same.new0 (o := ExV (.ref A_InvalidWords) (some d) p) np)
          have hla1 := sK _ _ hla
          generalize upd K1 p (ExV (.ref A_InvalidWords) (some d) p) = K2 at *
          walk_at "go"
          refine ⟨_, rfl, fun d' K3 p' nd' sd' hd' np' => ?_⟩
          refine ⟨p', d', _, _, rfl, upd_same, h_keep hd' np', rfl, ?_⟩
          have sK' := sd'.trans (Same.new0 (o := ExV (.ref A_UnknownName) (some d') p') np')
          generalize upd K3 p' (ExV (.ref A_UnknownName) (some d') p') = K4 at *
          walk_at "go"
          exact ⟨rfl, sK.trans sK'⟩
        rintro σ H17 ⟨rfl, s17⟩
        replace hla := s17 _ _ hla
        refine r_cut (fun σ H' => σ = [y0, y1, some (.int cell), some (.ref b), some (.str " !#$&()*+,-./0123456789:;<=>?@ABCXYZ[]^_abcxyz{|}~"), some (.str text), some (.ref la), some (.str n), some (.ref lm), some (.ref lo), z10, z11] ∧ Same H17 H') ?_ ?_
        · walk_at "go"
          refine ⟨0, .int x, A_NotShort, "amount", rfl, .inl ⟨rfl, rfl, rfl⟩, fun v Hx sx hv => ?_⟩
          obtain ⟨p, d, rfl, h1, h2⟩ := hv
          have hla1 := sx _ _ hla
          refine ⟨p, d, _, _, rfl, h1, h2, rfl, ?_⟩
          walk_at "go"
          refine ⟨1, .int y, A_TooGreat, "number", rfl, .inr (.inl ⟨rfl, rfl, rfl⟩), fun v Hy sy hv => ?_⟩
          obtain ⟨p, d, rfl, h1, h2⟩ := hv
          have hla2 := sy _ _ hla1
          refine ⟨p, d, _, _, rfl, h1, h2, rfl, ?_⟩
          walk_at "go"
          exact ⟨rfl, sx.trans sy⟩
        rintro σ H18 ⟨rfl, s18⟩
        replace hla := s18 _ _ hla
        refine r_cut (fun σ H' => σ = [y0, y1, some (.int cell), some (.ref b), some (.str " !#$&()*+,-./0123456789:;<=>?@ABCXYZ[]^_abcxyz{|}~"), some (.str text), some (.ref la), some (.str n), some (.ref lm), some (.ref lo), z10, z11] ∧ Same H18 H') ?_ ?_
        · walk_at "go"
          refine ⟨2, .int z, A_InvalidWords, "spot", rfl, .inr (.inr (.inl ⟨rfl, rfl, rfl⟩)), fun v Hx sx hv => ?_⟩
          obtain ⟨p, d, rfl, h1, h2⟩ := hv
          have hla1 := sx _ _ hla
          refine ⟨p, d, _, _, rfl, h1, h2, rfl, ?_⟩
          walk_at "go"
          refine ⟨3, .str n, A_UnknownName, "name", rfl, .inr (.inr (.inr ⟨rfl, rfl, rfl⟩)), fun v Hy sy hv => ?_⟩
          obtain ⟨p, d, rfl, h1, h2⟩ := hv
          refine ⟨p, d, _, _, rfl, h1, h2, rfl, ?_⟩
          walk_at "go"
          exact ⟨rfl, sx.trans sy⟩
        rintro σ H19 ⟨rfl, s19⟩
        have sE := ((s15.trans s16).trans s17).trans (s18.trans s19)
        walk_at "go"
        refine ⟨lm, la, vs, x, y, z, n, rfl, sE _ _ hlm, ho.same sE, s19 _ _ hla, fun Hx sx => ?_⟩
        walk_at "go"
        exact ⟨_, _, _, _, _, _, _, _, _, _, _, _, rfl, sm.trans (Same.but2 s1 nb (buZ.trans (Same.but (sE.trans sx) b)))⟩
    · rintro σ H' ⟨y0, y1, y2, y3, y4, y5, y6, y7, y8, y9, y10, y11, rfl, sm⟩
      walk_at "go"
      exact k H'
end

set_option Elab.async false
set_option linter.all false
set_option maxRecDepth 100000
set_option maxHeartbeats 8000000

open PySem PySem.Spec PyProof.Rows L2
structure BlA (mg : Str → Option Value) : Prop where
  b_ValueError : mg "ValueError" = none
  b_any : mg "any" = none
theorem all_mk {l : PySem.W.OpenLaw} {w : World} {K : PySem.W.Frag} {h : Heap} {mg : Str → Option Value} {fa f1 f2 f3 f4 f5 f6 f7 f8 f9 f10 f11 f12 f13 f14 f15 : Addr} (X : K.In h) (G : h.Ns mainGlobals mg) (hfa : mg "law" = some (.ref fa))
    {od1 an1 od2 an2 od3 an3 od4 an4 od15 an15 : Option Addr} {sl1 sl2 sl3 sl4 sl15 : Array (Option Value)} {oc1 kV1 dc1 pm1 cd1 ct1 oc2 kV2 dc2 pm2 cd2 ct2 oc3 kV3 dc3 pm3 cd3 ct3 oc4 kV4 dc4 pm4 cd4 ct4 oc15 kV15 dc15 pm15 cd15 ct15 : Value}
    {A_AngleError : Addr} {cd_AngleError : ClassData} {A_InvalidPoly : Addr} {cd_InvalidPoly : ClassData} {A_InvalidDivisor : Addr} {cd_InvalidDivisor : ClassData} {A_InvalidNumber : Addr} {cd_InvalidNumber : ClassData} {A_InvalidOrder : Addr} {cd_InvalidOrder : ClassData} {A_InvalidOrders : Addr} {cd_InvalidOrders : ClassData} {A_InvalidName : Addr} {cd_InvalidName : ClassData} {A_InvalidProgram : Addr} {cd_InvalidProgram : ClassData} {A_InvalidCount : Addr} {cd_InvalidCount : ClassData} {A_InvalidIndex : Addr} {cd_InvalidIndex : ClassData} {A_InvalidClaim : Addr} {cd_InvalidClaim : ClassData} {A_NotAChain : Addr} {cd_NotAChain : ClassData} {A_NoGreatest : Addr} {cd_NoGreatest : ClassData} {A_NoProgram : Addr} {cd_NoProgram : ClassData} {A_NoneLeft : Addr} {cd_NoneLeft : ClassData} {A_Refused : Addr} {cd_Refused : ClassData} {A_NothingToUndo : Addr} {cd_NothingToUndo : ClassData} {A_InvalidCommand : Addr} {cd_InvalidCommand : ClassData} {A_NotShort : Addr} {cd_NotShort : ClassData} {A_TooGreat : Addr} {cd_TooGreat : ClassData} {A_InvalidWords : Addr} {cd_InvalidWords : ClassData} {A_UnknownName : Addr} {cd_UnknownName : ClassData}
    (xAngleErrorg : PySem.W.nsIn K mainGlobals "AngleError" = some (some (.ref A_AngleError)))
    (xAngleErrorxi : PySem.W.excIn K A_AngleError [.type "ValueError", .type "Exception", .type "BaseException", .type "object"] "ValueError.__new__" = true)
    (xAngleErrork : PySem.W.keepIn K (.ref A_AngleError) = true)
    (xAngleErrorb : PySem.W.subIn K (.ref A_AngleError) (.type "BaseException") = some true)
    (xAngleErrort : PySem.W.typeIn K (.ref A_AngleError) = some (.type "type"))
    (xAngleErrorga : PySem.W.findIn K (.ref A_AngleError) "__getattribute__" = some (some (.builtin "BaseException.__getattribute__")))
    (xAngleErrorgt : PySem.W.findIn K (.ref A_AngleError) "__getattr__" = some none)
    (xAngleErrord : PySem.W.hasDictIn K A_AngleError = true)
    (xAngleErrorcl : PySem.W.findIn K (.ref A_AngleError) "__class__" = some (some (.builtin "object.__class__")))
    (xAngleErrorcn : PySem.W.specialIn K (.builtin "object.__class__") "__get__" = some (some (.builtin "getset_descriptor.__get__")))
    (xAngleErrorct : PySem.W.takesIn K (.builtin "object.__class__") = some true)
    (xAngleErrormr : PySem.W.mroIn K A_AngleError (.type "object") = some true)
    (xAngleErrorcs : PySem.W.clsIn K A_AngleError = some cd_AngleError)
    (xInvalidPolyg : PySem.W.nsIn K mainGlobals "InvalidPoly" = some (some (.ref A_InvalidPoly)))
    (xInvalidPolyxi : PySem.W.excIn K A_InvalidPoly [.type "ValueError", .type "Exception", .type "BaseException", .type "object"] "ValueError.__new__" = true)
    (xInvalidPolyk : PySem.W.keepIn K (.ref A_InvalidPoly) = true)
    (xInvalidPolyb : PySem.W.subIn K (.ref A_InvalidPoly) (.type "BaseException") = some true)
    (xInvalidPolyt : PySem.W.typeIn K (.ref A_InvalidPoly) = some (.type "type"))
    (xInvalidPolyga : PySem.W.findIn K (.ref A_InvalidPoly) "__getattribute__" = some (some (.builtin "BaseException.__getattribute__")))
    (xInvalidPolygt : PySem.W.findIn K (.ref A_InvalidPoly) "__getattr__" = some none)
    (xInvalidPolyd : PySem.W.hasDictIn K A_InvalidPoly = true)
    (xInvalidPolycl : PySem.W.findIn K (.ref A_InvalidPoly) "__class__" = some (some (.builtin "object.__class__")))
    (xInvalidPolycn : PySem.W.specialIn K (.builtin "object.__class__") "__get__" = some (some (.builtin "getset_descriptor.__get__")))
    (xInvalidPolyct : PySem.W.takesIn K (.builtin "object.__class__") = some true)
    (xInvalidPolymr : PySem.W.mroIn K A_InvalidPoly (.type "object") = some true)
    (xInvalidPolycs : PySem.W.clsIn K A_InvalidPoly = some cd_InvalidPoly)
    (xInvalidDivisorg : PySem.W.nsIn K mainGlobals "InvalidDivisor" = some (some (.ref A_InvalidDivisor)))
    (xInvalidDivisorxi : PySem.W.excIn K A_InvalidDivisor [.type "ValueError", .type "Exception", .type "BaseException", .type "object"] "ValueError.__new__" = true)
    (xInvalidDivisork : PySem.W.keepIn K (.ref A_InvalidDivisor) = true)
    (xInvalidDivisorb : PySem.W.subIn K (.ref A_InvalidDivisor) (.type "BaseException") = some true)
    (xInvalidDivisort : PySem.W.typeIn K (.ref A_InvalidDivisor) = some (.type "type"))
    (xInvalidDivisorga : PySem.W.findIn K (.ref A_InvalidDivisor) "__getattribute__" = some (some (.builtin "BaseException.__getattribute__")))
    (xInvalidDivisorgt : PySem.W.findIn K (.ref A_InvalidDivisor) "__getattr__" = some none)
    (xInvalidDivisord : PySem.W.hasDictIn K A_InvalidDivisor = true)
    (xInvalidDivisorcl : PySem.W.findIn K (.ref A_InvalidDivisor) "__class__" = some (some (.builtin "object.__class__")))
    (xInvalidDivisorcn : PySem.W.specialIn K (.builtin "object.__class__") "__get__" = some (some (.builtin "getset_descriptor.__get__")))
    (xInvalidDivisorct : PySem.W.takesIn K (.builtin "object.__class__") = some true)
    (xInvalidDivisormr : PySem.W.mroIn K A_InvalidDivisor (.type "object") = some true)
    (xInvalidDivisorcs : PySem.W.clsIn K A_InvalidDivisor = some cd_InvalidDivisor)
    (xInvalidNumberg : PySem.W.nsIn K mainGlobals "InvalidNumber" = some (some (.ref A_InvalidNumber)))
    (xInvalidNumberxi : PySem.W.excIn K A_InvalidNumber [.type "ValueError", .type "Exception", .type "BaseException", .type "object"] "ValueError.__new__" = true)
    (xInvalidNumberk : PySem.W.keepIn K (.ref A_InvalidNumber) = true)
    (xInvalidNumberb : PySem.W.subIn K (.ref A_InvalidNumber) (.type "BaseException") = some true)
    (xInvalidNumbert : PySem.W.typeIn K (.ref A_InvalidNumber) = some (.type "type"))
    (xInvalidNumberga : PySem.W.findIn K (.ref A_InvalidNumber) "__getattribute__" = some (some (.builtin "BaseException.__getattribute__")))
    (xInvalidNumbergt : PySem.W.findIn K (.ref A_InvalidNumber) "__getattr__" = some none)
    (xInvalidNumberd : PySem.W.hasDictIn K A_InvalidNumber = true)
    (xInvalidNumbercl : PySem.W.findIn K (.ref A_InvalidNumber) "__class__" = some (some (.builtin "object.__class__")))
    (xInvalidNumbercn : PySem.W.specialIn K (.builtin "object.__class__") "__get__" = some (some (.builtin "getset_descriptor.__get__")))
    (xInvalidNumberct : PySem.W.takesIn K (.builtin "object.__class__") = some true)
    (xInvalidNumbermr : PySem.W.mroIn K A_InvalidNumber (.type "object") = some true)
    (xInvalidNumbercs : PySem.W.clsIn K A_InvalidNumber = some cd_InvalidNumber)
    (xInvalidOrderg : PySem.W.nsIn K mainGlobals "InvalidOrder" = some (some (.ref A_InvalidOrder)))
    (xInvalidOrderxi : PySem.W.excIn K A_InvalidOrder [.type "ValueError", .type "Exception", .type "BaseException", .type "object"] "ValueError.__new__" = true)
    (xInvalidOrderk : PySem.W.keepIn K (.ref A_InvalidOrder) = true)
    (xInvalidOrderb : PySem.W.subIn K (.ref A_InvalidOrder) (.type "BaseException") = some true)
    (xInvalidOrdert : PySem.W.typeIn K (.ref A_InvalidOrder) = some (.type "type"))
    (xInvalidOrderga : PySem.W.findIn K (.ref A_InvalidOrder) "__getattribute__" = some (some (.builtin "BaseException.__getattribute__")))
    (xInvalidOrdergt : PySem.W.findIn K (.ref A_InvalidOrder) "__getattr__" = some none)
    (xInvalidOrderd : PySem.W.hasDictIn K A_InvalidOrder = true)
    (xInvalidOrdercl : PySem.W.findIn K (.ref A_InvalidOrder) "__class__" = some (some (.builtin "object.__class__")))
    (xInvalidOrdercn : PySem.W.specialIn K (.builtin "object.__class__") "__get__" = some (some (.builtin "getset_descriptor.__get__")))
    (xInvalidOrderct : PySem.W.takesIn K (.builtin "object.__class__") = some true)
    (xInvalidOrdermr : PySem.W.mroIn K A_InvalidOrder (.type "object") = some true)
    (xInvalidOrdercs : PySem.W.clsIn K A_InvalidOrder = some cd_InvalidOrder)
    (xInvalidOrdersg : PySem.W.nsIn K mainGlobals "InvalidOrders" = some (some (.ref A_InvalidOrders)))
    (xInvalidOrdersxi : PySem.W.excIn K A_InvalidOrders [.type "ValueError", .type "Exception", .type "BaseException", .type "object"] "ValueError.__new__" = true)
    (xInvalidOrdersk : PySem.W.keepIn K (.ref A_InvalidOrders) = true)
    (xInvalidOrdersb : PySem.W.subIn K (.ref A_InvalidOrders) (.type "BaseException") = some true)
    (xInvalidOrderst : PySem.W.typeIn K (.ref A_InvalidOrders) = some (.type "type"))
    (xInvalidOrdersga : PySem.W.findIn K (.ref A_InvalidOrders) "__getattribute__" = some (some (.builtin "BaseException.__getattribute__")))
    (xInvalidOrdersgt : PySem.W.findIn K (.ref A_InvalidOrders) "__getattr__" = some none)
    (xInvalidOrdersd : PySem.W.hasDictIn K A_InvalidOrders = true)
    (xInvalidOrderscl : PySem.W.findIn K (.ref A_InvalidOrders) "__class__" = some (some (.builtin "object.__class__")))
    (xInvalidOrderscn : PySem.W.specialIn K (.builtin "object.__class__") "__get__" = some (some (.builtin "getset_descriptor.__get__")))
    (xInvalidOrdersct : PySem.W.takesIn K (.builtin "object.__class__") = some true)
    (xInvalidOrdersmr : PySem.W.mroIn K A_InvalidOrders (.type "object") = some true)
    (xInvalidOrderscs : PySem.W.clsIn K A_InvalidOrders = some cd_InvalidOrders)
    (xInvalidNameg : PySem.W.nsIn K mainGlobals "InvalidName" = some (some (.ref A_InvalidName)))
    (xInvalidNamexi : PySem.W.excIn K A_InvalidName [.type "ValueError", .type "Exception", .type "BaseException", .type "object"] "ValueError.__new__" = true)
    (xInvalidNamek : PySem.W.keepIn K (.ref A_InvalidName) = true)
    (xInvalidNameb : PySem.W.subIn K (.ref A_InvalidName) (.type "BaseException") = some true)
    (xInvalidNamet : PySem.W.typeIn K (.ref A_InvalidName) = some (.type "type"))
    (xInvalidNamega : PySem.W.findIn K (.ref A_InvalidName) "__getattribute__" = some (some (.builtin "BaseException.__getattribute__")))
    (xInvalidNamegt : PySem.W.findIn K (.ref A_InvalidName) "__getattr__" = some none)
    (xInvalidNamed : PySem.W.hasDictIn K A_InvalidName = true)
    (xInvalidNamecl : PySem.W.findIn K (.ref A_InvalidName) "__class__" = some (some (.builtin "object.__class__")))
    (xInvalidNamecn : PySem.W.specialIn K (.builtin "object.__class__") "__get__" = some (some (.builtin "getset_descriptor.__get__")))
    (xInvalidNamect : PySem.W.takesIn K (.builtin "object.__class__") = some true)
    (xInvalidNamemr : PySem.W.mroIn K A_InvalidName (.type "object") = some true)
    (xInvalidNamecs : PySem.W.clsIn K A_InvalidName = some cd_InvalidName)
    (xInvalidProgramg : PySem.W.nsIn K mainGlobals "InvalidProgram" = some (some (.ref A_InvalidProgram)))
    (xInvalidProgramxi : PySem.W.excIn K A_InvalidProgram [.type "ValueError", .type "Exception", .type "BaseException", .type "object"] "ValueError.__new__" = true)
    (xInvalidProgramk : PySem.W.keepIn K (.ref A_InvalidProgram) = true)
    (xInvalidProgramb : PySem.W.subIn K (.ref A_InvalidProgram) (.type "BaseException") = some true)
    (xInvalidProgramt : PySem.W.typeIn K (.ref A_InvalidProgram) = some (.type "type"))
    (xInvalidProgramga : PySem.W.findIn K (.ref A_InvalidProgram) "__getattribute__" = some (some (.builtin "BaseException.__getattribute__")))
    (xInvalidProgramgt : PySem.W.findIn K (.ref A_InvalidProgram) "__getattr__" = some none)
    (xInvalidProgramd : PySem.W.hasDictIn K A_InvalidProgram = true)
    (xInvalidProgramcl : PySem.W.findIn K (.ref A_InvalidProgram) "__class__" = some (some (.builtin "object.__class__")))
    (xInvalidProgramcn : PySem.W.specialIn K (.builtin "object.__class__") "__get__" = some (some (.builtin "getset_descriptor.__get__")))
    (xInvalidProgramct : PySem.W.takesIn K (.builtin "object.__class__") = some true)
    (xInvalidProgrammr : PySem.W.mroIn K A_InvalidProgram (.type "object") = some true)
    (xInvalidProgramcs : PySem.W.clsIn K A_InvalidProgram = some cd_InvalidProgram)
    (xInvalidCountg : PySem.W.nsIn K mainGlobals "InvalidCount" = some (some (.ref A_InvalidCount)))
    (xInvalidCountxi : PySem.W.excIn K A_InvalidCount [.type "ValueError", .type "Exception", .type "BaseException", .type "object"] "ValueError.__new__" = true)
    (xInvalidCountk : PySem.W.keepIn K (.ref A_InvalidCount) = true)
    (xInvalidCountb : PySem.W.subIn K (.ref A_InvalidCount) (.type "BaseException") = some true)
    (xInvalidCountt : PySem.W.typeIn K (.ref A_InvalidCount) = some (.type "type"))
    (xInvalidCountga : PySem.W.findIn K (.ref A_InvalidCount) "__getattribute__" = some (some (.builtin "BaseException.__getattribute__")))
    (xInvalidCountgt : PySem.W.findIn K (.ref A_InvalidCount) "__getattr__" = some none)
    (xInvalidCountd : PySem.W.hasDictIn K A_InvalidCount = true)
    (xInvalidCountcl : PySem.W.findIn K (.ref A_InvalidCount) "__class__" = some (some (.builtin "object.__class__")))
    (xInvalidCountcn : PySem.W.specialIn K (.builtin "object.__class__") "__get__" = some (some (.builtin "getset_descriptor.__get__")))
    (xInvalidCountct : PySem.W.takesIn K (.builtin "object.__class__") = some true)
    (xInvalidCountmr : PySem.W.mroIn K A_InvalidCount (.type "object") = some true)
    (xInvalidCountcs : PySem.W.clsIn K A_InvalidCount = some cd_InvalidCount)
    (xInvalidIndexg : PySem.W.nsIn K mainGlobals "InvalidIndex" = some (some (.ref A_InvalidIndex)))
    (xInvalidIndexxi : PySem.W.excIn K A_InvalidIndex [.type "ValueError", .type "Exception", .type "BaseException", .type "object"] "ValueError.__new__" = true)
    (xInvalidIndexk : PySem.W.keepIn K (.ref A_InvalidIndex) = true)
    (xInvalidIndexb : PySem.W.subIn K (.ref A_InvalidIndex) (.type "BaseException") = some true)
    (xInvalidIndext : PySem.W.typeIn K (.ref A_InvalidIndex) = some (.type "type"))
    (xInvalidIndexga : PySem.W.findIn K (.ref A_InvalidIndex) "__getattribute__" = some (some (.builtin "BaseException.__getattribute__")))
    (xInvalidIndexgt : PySem.W.findIn K (.ref A_InvalidIndex) "__getattr__" = some none)
    (xInvalidIndexd : PySem.W.hasDictIn K A_InvalidIndex = true)
    (xInvalidIndexcl : PySem.W.findIn K (.ref A_InvalidIndex) "__class__" = some (some (.builtin "object.__class__")))
    (xInvalidIndexcn : PySem.W.specialIn K (.builtin "object.__class__") "__get__" = some (some (.builtin "getset_descriptor.__get__")))
    (xInvalidIndexct : PySem.W.takesIn K (.builtin "object.__class__") = some true)
    (xInvalidIndexmr : PySem.W.mroIn K A_InvalidIndex (.type "object") = some true)
    (xInvalidIndexcs : PySem.W.clsIn K A_InvalidIndex = some cd_InvalidIndex)
    (xInvalidClaimg : PySem.W.nsIn K mainGlobals "InvalidClaim" = some (some (.ref A_InvalidClaim)))
    (xInvalidClaimxi : PySem.W.excIn K A_InvalidClaim [.type "ValueError", .type "Exception", .type "BaseException", .type "object"] "ValueError.__new__" = true)
    (xInvalidClaimk : PySem.W.keepIn K (.ref A_InvalidClaim) = true)
    (xInvalidClaimb : PySem.W.subIn K (.ref A_InvalidClaim) (.type "BaseException") = some true)
    (xInvalidClaimt : PySem.W.typeIn K (.ref A_InvalidClaim) = some (.type "type"))
    (xInvalidClaimga : PySem.W.findIn K (.ref A_InvalidClaim) "__getattribute__" = some (some (.builtin "BaseException.__getattribute__")))
    (xInvalidClaimgt : PySem.W.findIn K (.ref A_InvalidClaim) "__getattr__" = some none)
    (xInvalidClaimd : PySem.W.hasDictIn K A_InvalidClaim = true)
    (xInvalidClaimcl : PySem.W.findIn K (.ref A_InvalidClaim) "__class__" = some (some (.builtin "object.__class__")))
    (xInvalidClaimcn : PySem.W.specialIn K (.builtin "object.__class__") "__get__" = some (some (.builtin "getset_descriptor.__get__")))
    (xInvalidClaimct : PySem.W.takesIn K (.builtin "object.__class__") = some true)
    (xInvalidClaimmr : PySem.W.mroIn K A_InvalidClaim (.type "object") = some true)
    (xInvalidClaimcs : PySem.W.clsIn K A_InvalidClaim = some cd_InvalidClaim)
    (xNotAChaing : PySem.W.nsIn K mainGlobals "NotAChain" = some (some (.ref A_NotAChain)))
    (xNotAChainxi : PySem.W.excIn K A_NotAChain [.type "ValueError", .type "Exception", .type "BaseException", .type "object"] "ValueError.__new__" = true)
    (xNotAChaink : PySem.W.keepIn K (.ref A_NotAChain) = true)
    (xNotAChainb : PySem.W.subIn K (.ref A_NotAChain) (.type "BaseException") = some true)
    (xNotAChaint : PySem.W.typeIn K (.ref A_NotAChain) = some (.type "type"))
    (xNotAChainga : PySem.W.findIn K (.ref A_NotAChain) "__getattribute__" = some (some (.builtin "BaseException.__getattribute__")))
    (xNotAChaingt : PySem.W.findIn K (.ref A_NotAChain) "__getattr__" = some none)
    (xNotAChaind : PySem.W.hasDictIn K A_NotAChain = true)
    (xNotAChaincl : PySem.W.findIn K (.ref A_NotAChain) "__class__" = some (some (.builtin "object.__class__")))
    (xNotAChaincn : PySem.W.specialIn K (.builtin "object.__class__") "__get__" = some (some (.builtin "getset_descriptor.__get__")))
    (xNotAChainct : PySem.W.takesIn K (.builtin "object.__class__") = some true)
    (xNotAChainmr : PySem.W.mroIn K A_NotAChain (.type "object") = some true)
    (xNotAChaincs : PySem.W.clsIn K A_NotAChain = some cd_NotAChain)
    (xNoGreatestg : PySem.W.nsIn K mainGlobals "NoGreatest" = some (some (.ref A_NoGreatest)))
    (xNoGreatestxi : PySem.W.excIn K A_NoGreatest [.type "ValueError", .type "Exception", .type "BaseException", .type "object"] "ValueError.__new__" = true)
    (xNoGreatestk : PySem.W.keepIn K (.ref A_NoGreatest) = true)
    (xNoGreatestb : PySem.W.subIn K (.ref A_NoGreatest) (.type "BaseException") = some true)
    (xNoGreatestt : PySem.W.typeIn K (.ref A_NoGreatest) = some (.type "type"))
    (xNoGreatestga : PySem.W.findIn K (.ref A_NoGreatest) "__getattribute__" = some (some (.builtin "BaseException.__getattribute__")))
    (xNoGreatestgt : PySem.W.findIn K (.ref A_NoGreatest) "__getattr__" = some none)
    (xNoGreatestd : PySem.W.hasDictIn K A_NoGreatest = true)
    (xNoGreatestcl : PySem.W.findIn K (.ref A_NoGreatest) "__class__" = some (some (.builtin "object.__class__")))
    (xNoGreatestcn : PySem.W.specialIn K (.builtin "object.__class__") "__get__" = some (some (.builtin "getset_descriptor.__get__")))
    (xNoGreatestct : PySem.W.takesIn K (.builtin "object.__class__") = some true)
    (xNoGreatestmr : PySem.W.mroIn K A_NoGreatest (.type "object") = some true)
    (xNoGreatestcs : PySem.W.clsIn K A_NoGreatest = some cd_NoGreatest)
    (xNoProgramg : PySem.W.nsIn K mainGlobals "NoProgram" = some (some (.ref A_NoProgram)))
    (xNoProgramxi : PySem.W.excIn K A_NoProgram [.type "ValueError", .type "Exception", .type "BaseException", .type "object"] "ValueError.__new__" = true)
    (xNoProgramk : PySem.W.keepIn K (.ref A_NoProgram) = true)
    (xNoProgramb : PySem.W.subIn K (.ref A_NoProgram) (.type "BaseException") = some true)
    (xNoProgramt : PySem.W.typeIn K (.ref A_NoProgram) = some (.type "type"))
    (xNoProgramga : PySem.W.findIn K (.ref A_NoProgram) "__getattribute__" = some (some (.builtin "BaseException.__getattribute__")))
    (xNoProgramgt : PySem.W.findIn K (.ref A_NoProgram) "__getattr__" = some none)
    (xNoProgramd : PySem.W.hasDictIn K A_NoProgram = true)
    (xNoProgramcl : PySem.W.findIn K (.ref A_NoProgram) "__class__" = some (some (.builtin "object.__class__")))
    (xNoProgramcn : PySem.W.specialIn K (.builtin "object.__class__") "__get__" = some (some (.builtin "getset_descriptor.__get__")))
    (xNoProgramct : PySem.W.takesIn K (.builtin "object.__class__") = some true)
    (xNoProgrammr : PySem.W.mroIn K A_NoProgram (.type "object") = some true)
    (xNoProgramcs : PySem.W.clsIn K A_NoProgram = some cd_NoProgram)
    (xNoneLeftg : PySem.W.nsIn K mainGlobals "NoneLeft" = some (some (.ref A_NoneLeft)))
    (xNoneLeftxi : PySem.W.excIn K A_NoneLeft [.type "ValueError", .type "Exception", .type "BaseException", .type "object"] "ValueError.__new__" = true)
    (xNoneLeftk : PySem.W.keepIn K (.ref A_NoneLeft) = true)
    (xNoneLeftb : PySem.W.subIn K (.ref A_NoneLeft) (.type "BaseException") = some true)
    (xNoneLeftt : PySem.W.typeIn K (.ref A_NoneLeft) = some (.type "type"))
    (xNoneLeftga : PySem.W.findIn K (.ref A_NoneLeft) "__getattribute__" = some (some (.builtin "BaseException.__getattribute__")))
    (xNoneLeftgt : PySem.W.findIn K (.ref A_NoneLeft) "__getattr__" = some none)
    (xNoneLeftd : PySem.W.hasDictIn K A_NoneLeft = true)
    (xNoneLeftcl : PySem.W.findIn K (.ref A_NoneLeft) "__class__" = some (some (.builtin "object.__class__")))
    (xNoneLeftcn : PySem.W.specialIn K (.builtin "object.__class__") "__get__" = some (some (.builtin "getset_descriptor.__get__")))
    (xNoneLeftct : PySem.W.takesIn K (.builtin "object.__class__") = some true)
    (xNoneLeftmr : PySem.W.mroIn K A_NoneLeft (.type "object") = some true)
    (xNoneLeftcs : PySem.W.clsIn K A_NoneLeft = some cd_NoneLeft)
    (xRefusedg : PySem.W.nsIn K mainGlobals "Refused" = some (some (.ref A_Refused)))
    (xRefusedxi : PySem.W.excIn K A_Refused [.type "ValueError", .type "Exception", .type "BaseException", .type "object"] "ValueError.__new__" = true)
    (xRefusedk : PySem.W.keepIn K (.ref A_Refused) = true)
    (xRefusedb : PySem.W.subIn K (.ref A_Refused) (.type "BaseException") = some true)
    (xRefusedt : PySem.W.typeIn K (.ref A_Refused) = some (.type "type"))
    (xRefusedga : PySem.W.findIn K (.ref A_Refused) "__getattribute__" = some (some (.builtin "BaseException.__getattribute__")))
    (xRefusedgt : PySem.W.findIn K (.ref A_Refused) "__getattr__" = some none)
    (xRefusedd : PySem.W.hasDictIn K A_Refused = true)
    (xRefusedcl : PySem.W.findIn K (.ref A_Refused) "__class__" = some (some (.builtin "object.__class__")))
    (xRefusedcn : PySem.W.specialIn K (.builtin "object.__class__") "__get__" = some (some (.builtin "getset_descriptor.__get__")))
    (xRefusedct : PySem.W.takesIn K (.builtin "object.__class__") = some true)
    (xRefusedmr : PySem.W.mroIn K A_Refused (.type "object") = some true)
    (xRefusedcs : PySem.W.clsIn K A_Refused = some cd_Refused)
    (xNothingToUndog : PySem.W.nsIn K mainGlobals "NothingToUndo" = some (some (.ref A_NothingToUndo)))
    (xNothingToUndoxi : PySem.W.excIn K A_NothingToUndo [.type "ValueError", .type "Exception", .type "BaseException", .type "object"] "ValueError.__new__" = true)
    (xNothingToUndok : PySem.W.keepIn K (.ref A_NothingToUndo) = true)
    (xNothingToUndob : PySem.W.subIn K (.ref A_NothingToUndo) (.type "BaseException") = some true)
    (xNothingToUndot : PySem.W.typeIn K (.ref A_NothingToUndo) = some (.type "type"))
    (xNothingToUndoga : PySem.W.findIn K (.ref A_NothingToUndo) "__getattribute__" = some (some (.builtin "BaseException.__getattribute__")))
    (xNothingToUndogt : PySem.W.findIn K (.ref A_NothingToUndo) "__getattr__" = some none)
    (xNothingToUndod : PySem.W.hasDictIn K A_NothingToUndo = true)
    (xNothingToUndocl : PySem.W.findIn K (.ref A_NothingToUndo) "__class__" = some (some (.builtin "object.__class__")))
    (xNothingToUndocn : PySem.W.specialIn K (.builtin "object.__class__") "__get__" = some (some (.builtin "getset_descriptor.__get__")))
    (xNothingToUndoct : PySem.W.takesIn K (.builtin "object.__class__") = some true)
    (xNothingToUndomr : PySem.W.mroIn K A_NothingToUndo (.type "object") = some true)
    (xNothingToUndocs : PySem.W.clsIn K A_NothingToUndo = some cd_NothingToUndo)
    (xInvalidCommandg : PySem.W.nsIn K mainGlobals "InvalidCommand" = some (some (.ref A_InvalidCommand)))
    (xInvalidCommandxi : PySem.W.excIn K A_InvalidCommand [.type "ValueError", .type "Exception", .type "BaseException", .type "object"] "ValueError.__new__" = true)
    (xInvalidCommandk : PySem.W.keepIn K (.ref A_InvalidCommand) = true)
    (xInvalidCommandb : PySem.W.subIn K (.ref A_InvalidCommand) (.type "BaseException") = some true)
    (xInvalidCommandt : PySem.W.typeIn K (.ref A_InvalidCommand) = some (.type "type"))
    (xInvalidCommandga : PySem.W.findIn K (.ref A_InvalidCommand) "__getattribute__" = some (some (.builtin "BaseException.__getattribute__")))
    (xInvalidCommandgt : PySem.W.findIn K (.ref A_InvalidCommand) "__getattr__" = some none)
    (xInvalidCommandd : PySem.W.hasDictIn K A_InvalidCommand = true)
    (xInvalidCommandcl : PySem.W.findIn K (.ref A_InvalidCommand) "__class__" = some (some (.builtin "object.__class__")))
    (xInvalidCommandcn : PySem.W.specialIn K (.builtin "object.__class__") "__get__" = some (some (.builtin "getset_descriptor.__get__")))
    (xInvalidCommandct : PySem.W.takesIn K (.builtin "object.__class__") = some true)
    (xInvalidCommandmr : PySem.W.mroIn K A_InvalidCommand (.type "object") = some true)
    (xInvalidCommandcs : PySem.W.clsIn K A_InvalidCommand = some cd_InvalidCommand)
    (yNotShortg : PySem.W.nsIn K mainGlobals "NotShort" = some (some (.ref A_NotShort)))
    (yNotShortoe : oexIn K A_NotShort = true)
    (yNotShortsa : PySem.W.findIn K (.ref A_NotShort) "__setattr__" = some (some (.builtin "object.__setattr__")))
    (yNotShortk : PySem.W.keepIn K (.ref A_NotShort) = true)
    (yNotShortb : PySem.W.subIn K (.ref A_NotShort) (.type "BaseException") = some true)
    (yNotShortt : PySem.W.typeIn K (.ref A_NotShort) = some (.type "type"))
    (yNotShortga : PySem.W.findIn K (.ref A_NotShort) "__getattribute__" = some (some (.builtin "BaseException.__getattribute__")))
    (yNotShortgt : PySem.W.findIn K (.ref A_NotShort) "__getattr__" = some none)
    (yNotShortd : PySem.W.hasDictIn K A_NotShort = true)
    (yNotShortcl : PySem.W.findIn K (.ref A_NotShort) "__class__" = some (some (.builtin "object.__class__")))
    (yNotShortcn : PySem.W.specialIn K (.builtin "object.__class__") "__get__" = some (some (.builtin "getset_descriptor.__get__")))
    (yNotShortct : PySem.W.takesIn K (.builtin "object.__class__") = some true)
    (yNotShortmr : PySem.W.mroIn K A_NotShort (.type "object") = some true)
    (yNotShortcs : PySem.W.clsIn K A_NotShort = some cd_NotShort)
    (yNotShortno : PySem.W.findIn K (.ref A_NotShort) "amount" = some none)
    (yTooGreatg : PySem.W.nsIn K mainGlobals "TooGreat" = some (some (.ref A_TooGreat)))
    (yTooGreatoe : oexIn K A_TooGreat = true)
    (yTooGreatsa : PySem.W.findIn K (.ref A_TooGreat) "__setattr__" = some (some (.builtin "object.__setattr__")))
    (yTooGreatk : PySem.W.keepIn K (.ref A_TooGreat) = true)
    (yTooGreatb : PySem.W.subIn K (.ref A_TooGreat) (.type "BaseException") = some true)
    (yTooGreatt : PySem.W.typeIn K (.ref A_TooGreat) = some (.type "type"))
    (yTooGreatga : PySem.W.findIn K (.ref A_TooGreat) "__getattribute__" = some (some (.builtin "BaseException.__getattribute__")))
    (yTooGreatgt : PySem.W.findIn K (.ref A_TooGreat) "__getattr__" = some none)
    (yTooGreatd : PySem.W.hasDictIn K A_TooGreat = true)
    (yTooGreatcl : PySem.W.findIn K (.ref A_TooGreat) "__class__" = some (some (.builtin "object.__class__")))
    (yTooGreatcn : PySem.W.specialIn K (.builtin "object.__class__") "__get__" = some (some (.builtin "getset_descriptor.__get__")))
    (yTooGreatct : PySem.W.takesIn K (.builtin "object.__class__") = some true)
    (yTooGreatmr : PySem.W.mroIn K A_TooGreat (.type "object") = some true)
    (yTooGreatcs : PySem.W.clsIn K A_TooGreat = some cd_TooGreat)
    (yTooGreatno : PySem.W.findIn K (.ref A_TooGreat) "number" = some none)
    (yInvalidWordsg : PySem.W.nsIn K mainGlobals "InvalidWords" = some (some (.ref A_InvalidWords)))
    (yInvalidWordsoe : oexIn K A_InvalidWords = true)
    (yInvalidWordssa : PySem.W.findIn K (.ref A_InvalidWords) "__setattr__" = some (some (.builtin "object.__setattr__")))
    (yInvalidWordsk : PySem.W.keepIn K (.ref A_InvalidWords) = true)
    (yInvalidWordsb : PySem.W.subIn K (.ref A_InvalidWords) (.type "BaseException") = some true)
    (yInvalidWordst : PySem.W.typeIn K (.ref A_InvalidWords) = some (.type "type"))
    (yInvalidWordsga : PySem.W.findIn K (.ref A_InvalidWords) "__getattribute__" = some (some (.builtin "BaseException.__getattribute__")))
    (yInvalidWordsgt : PySem.W.findIn K (.ref A_InvalidWords) "__getattr__" = some none)
    (yInvalidWordsd : PySem.W.hasDictIn K A_InvalidWords = true)
    (yInvalidWordscl : PySem.W.findIn K (.ref A_InvalidWords) "__class__" = some (some (.builtin "object.__class__")))
    (yInvalidWordscn : PySem.W.specialIn K (.builtin "object.__class__") "__get__" = some (some (.builtin "getset_descriptor.__get__")))
    (yInvalidWordsct : PySem.W.takesIn K (.builtin "object.__class__") = some true)
    (yInvalidWordsmr : PySem.W.mroIn K A_InvalidWords (.type "object") = some true)
    (yInvalidWordscs : PySem.W.clsIn K A_InvalidWords = some cd_InvalidWords)
    (yInvalidWordsno : PySem.W.findIn K (.ref A_InvalidWords) "spot" = some none)
    (yUnknownNameg : PySem.W.nsIn K mainGlobals "UnknownName" = some (some (.ref A_UnknownName)))
    (yUnknownNameoe : oexIn K A_UnknownName = true)
    (yUnknownNamesa : PySem.W.findIn K (.ref A_UnknownName) "__setattr__" = some (some (.builtin "object.__setattr__")))
    (yUnknownNamek : PySem.W.keepIn K (.ref A_UnknownName) = true)
    (yUnknownNameb : PySem.W.subIn K (.ref A_UnknownName) (.type "BaseException") = some true)
    (yUnknownNamet : PySem.W.typeIn K (.ref A_UnknownName) = some (.type "type"))
    (yUnknownNamega : PySem.W.findIn K (.ref A_UnknownName) "__getattribute__" = some (some (.builtin "BaseException.__getattribute__")))
    (yUnknownNamegt : PySem.W.findIn K (.ref A_UnknownName) "__getattr__" = some none)
    (yUnknownNamed : PySem.W.hasDictIn K A_UnknownName = true)
    (yUnknownNamecl : PySem.W.findIn K (.ref A_UnknownName) "__class__" = some (some (.builtin "object.__class__")))
    (yUnknownNamecn : PySem.W.specialIn K (.builtin "object.__class__") "__get__" = some (some (.builtin "getset_descriptor.__get__")))
    (yUnknownNamect : PySem.W.takesIn K (.builtin "object.__class__") = some true)
    (yUnknownNamemr : PySem.W.mroIn K A_UnknownName (.type "object") = some true)
    (yUnknownNamecs : PySem.W.clsIn K A_UnknownName = some cd_UnknownName)
    (yUnknownNameno : PySem.W.findIn K (.ref A_UnknownName) "name" = some none)
    (uNotShort_AngleError : PySem.W.subIn K (.ref A_NotShort) (.ref A_AngleError) = some true)
    (uTooGreat_AngleError : PySem.W.subIn K (.ref A_TooGreat) (.ref A_AngleError) = some true)
    (uInvalidWords_AngleError : PySem.W.subIn K (.ref A_InvalidWords) (.ref A_AngleError) = some true)
    (uUnknownName_AngleError : PySem.W.subIn K (.ref A_UnknownName) (.ref A_AngleError) = some true)
    (uMat : matB K [A_InvalidPoly, A_InvalidDivisor, A_InvalidNumber, A_InvalidOrder, A_InvalidOrders, A_InvalidName, A_InvalidProgram, A_InvalidCount, A_InvalidIndex, A_InvalidClaim, A_NotAChain, A_NoGreatest, A_NoProgram, A_NoneLeft, A_Refused, A_NothingToUndo, A_InvalidCommand, A_NotShort, A_TooGreat, A_InvalidWords, A_UnknownName] = true)
    (uAng : angB K A_AngleError [A_InvalidPoly, A_InvalidDivisor, A_InvalidNumber, A_InvalidOrder, A_InvalidOrders, A_InvalidName, A_InvalidProgram, A_InvalidCount, A_InvalidIndex, A_InvalidClaim, A_NotAChain, A_NoGreatest, A_NoProgram, A_NoneLeft, A_Refused, A_NothingToUndo, A_InvalidCommand, A_NotShort, A_TooGreat, A_InvalidWords, A_UnknownName] = true)
    (uVal : valB K [A_InvalidPoly, A_InvalidDivisor, A_InvalidNumber, A_InvalidOrder, A_InvalidOrders, A_InvalidName, A_InvalidProgram, A_InvalidCount, A_InvalidIndex, A_InvalidClaim, A_NotAChain, A_NoGreatest, A_NoProgram, A_NoneLeft, A_Refused, A_NothingToUndo, A_InvalidCommand, A_NotShort, A_TooGreat, A_InvalidWords, A_UnknownName] = true)
    (uAV : PySem.W.subIn K (.ref A_AngleError) (.type "ValueError") = some true)
    (a1 : PySem.W.findIn K (.ref A_NotShort) "__init__" = some (some (.ref f1))) (i1 : PySem.W.isFn K (.ref f1) = true)
    (l1 : K.lookup f1 = some ⟨oc1, od1, .func (PySem.W.fnOf "__init__" "NotShort.__init__" (defArgs s_NotShort___init__) (defBody s_NotShort___init__) (defScope s_NotShort___init__) .none kV1 dc1 pm1 an1 cd1 ct1), sl1⟩) (c1 : PySem.W.codeIn K cd1 "NotShort.__init__" = true) (k1 : PySem.W.keepIn K (.ref f1) = true)
    (a2 : PySem.W.findIn K (.ref A_TooGreat) "__init__" = some (some (.ref f2))) (i2 : PySem.W.isFn K (.ref f2) = true)
    (l2 : K.lookup f2 = some ⟨oc2, od2, .func (PySem.W.fnOf "__init__" "TooGreat.__init__" (defArgs s_TooGreat___init__) (defBody s_TooGreat___init__) (defScope s_TooGreat___init__) .none kV2 dc2 pm2 an2 cd2 ct2), sl2⟩) (c2 : PySem.W.codeIn K cd2 "TooGreat.__init__" = true) (k2 : PySem.W.keepIn K (.ref f2) = true)
    (a3 : PySem.W.findIn K (.ref A_InvalidWords) "__init__" = some (some (.ref f3))) (i3 : PySem.W.isFn K (.ref f3) = true)
    (l3 : K.lookup f3 = some ⟨oc3, od3, .func (PySem.W.fnOf "__init__" "InvalidWords.__init__" (defArgs s_InvalidWords___init__) (defBody s_InvalidWords___init__) (defScope s_InvalidWords___init__) .none kV3 dc3 pm3 an3 cd3 ct3), sl3⟩) (c3 : PySem.W.codeIn K cd3 "InvalidWords.__init__" = true) (k3 : PySem.W.keepIn K (.ref f3) = true)
    (a4 : PySem.W.findIn K (.ref A_UnknownName) "__init__" = some (some (.ref f4))) (i4 : PySem.W.isFn K (.ref f4) = true)
    (l4 : K.lookup f4 = some ⟨oc4, od4, .func (PySem.W.fnOf "__init__" "UnknownName.__init__" (defArgs s_UnknownName___init__) (defBody s_UnknownName___init__) (defScope s_UnknownName___init__) .none kV4 dc4 pm4 an4 cd4 ct4), sl4⟩) (c4 : PySem.W.codeIn K cd4 "UnknownName.__init__" = true) (k4 : PySem.W.keepIn K (.ref f4) = true)
    (a5 : PySem.W.nsIn K mainGlobals "_law_bag_of" = some (some (.ref f5)))  (k5 : PySem.W.keepIn K (.ref f5) = true) (E5 : ∃ fd : FuncData, Fun K "_law_bag_of" "_law_bag_of" s_l_bag_of f5 fd)
    (a6 : PySem.W.nsIn K mainGlobals "_law_pick" = some (some (.ref f6)))  (k6 : PySem.W.keepIn K (.ref f6) = true) (E6 : ∃ fd : FuncData, Fun K "_law_pick" "_law_pick" s_l_pick f6 fd)
    (a7 : PySem.W.nsIn K mainGlobals "_law_great_int" = some (some (.ref f7)))  (k7 : PySem.W.keepIn K (.ref f7) = true) (E7 : ∃ fd : FuncData, Fun K "_law_great_int" "_law_great_int" s_l_great_int f7 fd)
    (a8 : PySem.W.nsIn K mainGlobals "_law_some_int" = some (some (.ref f8)))  (k8 : PySem.W.keepIn K (.ref f8) = true) (E8 : ∃ fd : FuncData, Fun K "_law_some_int" "_law_some_int" s_l_some_int f8 fd)
    (a9 : PySem.W.nsIn K mainGlobals "_law_some_title" = some (some (.ref f9)))  (k9 : PySem.W.keepIn K (.ref f9) = true) (E9 : ∃ fd : FuncData, Fun K "_law_some_title" "_law_some_title" s_l_some_title f9 fd)
    (a10 : PySem.W.nsIn K mainGlobals "_law_truths" = some (some (.ref f10)))  (k10 : PySem.W.keepIn K (.ref f10) = true) (E10 : ∃ fd : FuncData, Fun K "_law_truths" "_law_truths" s_l_truths f10 fd)
    (a11 : PySem.W.nsIn K mainGlobals "_law_objects" = some (some (.ref f11)))  (k11 : PySem.W.keepIn K (.ref f11) = true) (E11 : ∃ fd : FuncData, Fun K "_law_objects" "_law_objects" s_l_objects f11 fd)
    (a12 : PySem.W.nsIn K mainGlobals "_law_is_int" = some (some (.ref f12)))  (k12 : PySem.W.keepIn K (.ref f12) = true) (E12 : ∃ fd : FuncData, Fun K "_law_is_int" "_law_is_int" s_l_is_int f12 fd)
    (a13 : PySem.W.nsIn K mainGlobals "_law_fields" = some (some (.ref f13)))  (k13 : PySem.W.keepIn K (.ref f13) = true) (E13 : ∃ fd : FuncData, Fun K "_law_fields" "_law_fields" s_l_fields f13 fd)
    (a14 : PySem.W.nsIn K mainGlobals "_law_raised" = some (some (.ref f14)))  (k14 : PySem.W.keepIn K (.ref f14) = true) (E14 : ∃ fd : FuncData, Fun K "_law_raised" "_law_raised" s_l_raised f14 fd)
    (a15 : PySem.W.nsIn K mainGlobals "law" = some (some (.ref f15))) (l15 : K.lookup f15 = some ⟨oc15, od15, .func (PySem.W.fnOf "law" "law" (defArgs s_law) (defBody s_law) (defScope s_law) .none kV15 dc15 pm15 an15 cd15 ct15), sl15⟩) (c15 : PySem.W.codeIn K cd15 "law" = true) (k15 : PySem.W.keepIn K (.ref f15) = true)
    (z_ValueError : PySem.W.nsIn K mainGlobals "ValueError" = some none) (z_all : PySem.W.nsIn K mainGlobals "all" = some none) (z_any : PySem.W.nsIn K mainGlobals "any" = some none) (z_bool : PySem.W.nsIn K mainGlobals "bool" = some none) (z_int : PySem.W.nsIn K mainGlobals "int" = some none) (z_isinstance : PySem.W.nsIn K mainGlobals "isinstance" = some none) (z_len : PySem.W.nsIn K mainGlobals "len" = some none) (z_list : PySem.W.nsIn K mainGlobals "list" = some none) (z_max : PySem.W.nsIn K mainGlobals "max" = some none) (z_min : PySem.W.nsIn K mainGlobals "min" = some none) (z_range : PySem.W.nsIn K mainGlobals "range" = some none) (z_str : PySem.W.nsIn K mainGlobals "str" = some none) (z_sum : PySem.W.nsIn K mainGlobals "sum" = some none) (z_tuple : PySem.W.nsIn K mainGlobals "tuple" = some none)
    : ∃ fd : FuncData, (∀ (s : Shared) (v : Value), BindsTo s fd ⟨[v], []⟩ [("_law_script", v)]) ∧ ∀ base : Heap, K.In base → base.Ns mainGlobals mg → FnOk l.prog w K mg base CX0 5 fa fd ["_law_script"] (spLaw K) := by
  cases (hfa.symm.trans (PySem.W.mg_of X G a15))
  have F_NotShort___init__ := fun_mk (st := s_NotShort___init__) l1 c1 k1
  have b_NotShort___init__ := F_NotShort___init__.binds (ps := ["self", "amount"]) fun _ _ _ _ _ _ us hl => match us, hl with | [_, _], _ => rfl
  have F_TooGreat___init__ := fun_mk (st := s_TooGreat___init__) l2 c2 k2
  have b_TooGreat___init__ := F_TooGreat___init__.binds (ps := ["self", "number"]) fun _ _ _ _ _ _ us hl => match us, hl with | [_, _], _ => rfl
  have F_InvalidWords___init__ := fun_mk (st := s_InvalidWords___init__) l3 c3 k3
  have b_InvalidWords___init__ := F_InvalidWords___init__.binds (ps := ["self", "spot"]) fun _ _ _ _ _ _ us hl => match us, hl with | [_, _], _ => rfl
  have F_UnknownName___init__ := fun_mk (st := s_UnknownName___init__) l4 c4 k4
  have b_UnknownName___init__ := F_UnknownName___init__.binds (ps := ["self", "name"]) fun _ _ _ _ _ _ us hl => match us, hl with | [_, _], _ => rfl
  obtain ⟨_, F_l_bag_of⟩ := E5
  have b_l_bag_of := F_l_bag_of.binds (ps := ["_law_cell"]) fun _ _ _ _ _ _ us hl => match us, hl with | [_], _ => rfl
  obtain ⟨_, F_l_pick⟩ := E6
  have b_l_pick := F_l_pick.binds (ps := ["_law_bag", "_law_many"]) fun _ _ _ _ _ _ us hl => match us, hl with | [_, _], _ => rfl
  obtain ⟨_, F_l_great_int⟩ := E7
  have b_l_great_int := F_l_great_int.binds (ps := ["_law_bag", "_law_digits"]) fun _ _ _ _ _ _ us hl => match us, hl with | [_, _], _ => rfl
  obtain ⟨_, F_l_some_int⟩ := E8
  have b_l_some_int := F_l_some_int.binds (ps := ["_law_bag"]) fun _ _ _ _ _ _ us hl => match us, hl with | [_], _ => rfl
  obtain ⟨_, F_l_some_title⟩ := E9
  have b_l_some_title := F_l_some_title.binds (ps := ["_law_bag"]) fun _ _ _ _ _ _ us hl => match us, hl with | [_], _ => rfl
  obtain ⟨_, F_l_truths⟩ := E10
  have b_l_truths := F_l_truths.binds (ps := ["_law_thing"]) fun _ _ _ _ _ _ us hl => match us, hl with | [_], _ => rfl
  obtain ⟨_, F_l_objects⟩ := E11
  have b_l_objects := F_l_objects.binds (ps := ["_law_text", "_law_amounts", "_law_title"]) fun _ _ _ _ _ _ us hl => match us, hl with | [_, _, _], _ => rfl
  obtain ⟨_, F_l_is_int⟩ := E12
  have b_l_is_int := F_l_is_int.binds (ps := ["_law_thing"]) fun _ _ _ _ _ _ us hl => match us, hl with | [_], _ => rfl
  obtain ⟨_, F_l_fields⟩ := E13
  have b_l_fields := F_l_fields.binds (ps := ["_law_made", "_law_amounts", "_law_title"]) fun _ _ _ _ _ _ us hl => match us, hl with | [_, _, _], _ => rfl
  obtain ⟨_, F_l_raised⟩ := E14
  have b_l_raised := F_l_raised.binds (ps := ["_law_way", "_law_worth"]) fun _ _ _ _ _ _ us hl => match us, hl with | [_, _], _ => rfl
  have F_law := fun_mk (st := s_law) l15 c15 k15
  have B_Bl : Bl mg := ⟨PySem.W.mg_none_of X G z_isinstance, PySem.W.mg_none_of X G z_int, PySem.W.mg_none_of X G z_bool, PySem.W.mg_none_of X G z_str, PySem.W.mg_none_of X G z_tuple, PySem.W.mg_none_of X G z_list, PySem.W.mg_none_of X G z_len, PySem.W.mg_none_of X G z_all, PySem.W.mg_none_of X G z_range, PySem.W.mg_none_of X G z_sum, PySem.W.mg_none_of X G z_max, PySem.W.mg_none_of X G z_min⟩
  have B_BlA : BlA mg := ⟨PySem.W.mg_none_of X G z_ValueError, PySem.W.mg_none_of X G z_any⟩
  refine ⟨PySem.W.fnOf "law" "law" (defArgs s_law) (defBody s_law) (defScope s_law) .none kV15 dc15 pm15 an15 cd15 ct15, fun s v => .of_eq rfl, fun base _ _ => ?_⟩
  have X_AngleError : OwnX K mg "AngleError" A_AngleError := ⟨xAngleErrorxi, PySem.W.mg_of X G xAngleErrorg, xAngleErrork, xAngleErrorb, xAngleErrort, ⟨xAngleErrorga, xAngleErrorgt, xAngleErrorb, xAngleErrord, xAngleErrorcl, xAngleErrorcn, xAngleErrorct, xAngleErrormr⟩, ⟨_, xAngleErrorcs⟩⟩
  have X_InvalidPoly : OwnX K mg "InvalidPoly" A_InvalidPoly := ⟨xInvalidPolyxi, PySem.W.mg_of X G xInvalidPolyg, xInvalidPolyk, xInvalidPolyb, xInvalidPolyt, ⟨xInvalidPolyga, xInvalidPolygt, xInvalidPolyb, xInvalidPolyd, xInvalidPolycl, xInvalidPolycn, xInvalidPolyct, xInvalidPolymr⟩, ⟨_, xInvalidPolycs⟩⟩
  have X_InvalidDivisor : OwnX K mg "InvalidDivisor" A_InvalidDivisor := ⟨xInvalidDivisorxi, PySem.W.mg_of X G xInvalidDivisorg, xInvalidDivisork, xInvalidDivisorb, xInvalidDivisort, ⟨xInvalidDivisorga, xInvalidDivisorgt, xInvalidDivisorb, xInvalidDivisord, xInvalidDivisorcl, xInvalidDivisorcn, xInvalidDivisorct, xInvalidDivisormr⟩, ⟨_, xInvalidDivisorcs⟩⟩
  have X_InvalidNumber : OwnX K mg "InvalidNumber" A_InvalidNumber := ⟨xInvalidNumberxi, PySem.W.mg_of X G xInvalidNumberg, xInvalidNumberk, xInvalidNumberb, xInvalidNumbert, ⟨xInvalidNumberga, xInvalidNumbergt, xInvalidNumberb, xInvalidNumberd, xInvalidNumbercl, xInvalidNumbercn, xInvalidNumberct, xInvalidNumbermr⟩, ⟨_, xInvalidNumbercs⟩⟩
  have X_InvalidOrder : OwnX K mg "InvalidOrder" A_InvalidOrder := ⟨xInvalidOrderxi, PySem.W.mg_of X G xInvalidOrderg, xInvalidOrderk, xInvalidOrderb, xInvalidOrdert, ⟨xInvalidOrderga, xInvalidOrdergt, xInvalidOrderb, xInvalidOrderd, xInvalidOrdercl, xInvalidOrdercn, xInvalidOrderct, xInvalidOrdermr⟩, ⟨_, xInvalidOrdercs⟩⟩
  have X_InvalidOrders : OwnX K mg "InvalidOrders" A_InvalidOrders := ⟨xInvalidOrdersxi, PySem.W.mg_of X G xInvalidOrdersg, xInvalidOrdersk, xInvalidOrdersb, xInvalidOrderst, ⟨xInvalidOrdersga, xInvalidOrdersgt, xInvalidOrdersb, xInvalidOrdersd, xInvalidOrderscl, xInvalidOrderscn, xInvalidOrdersct, xInvalidOrdersmr⟩, ⟨_, xInvalidOrderscs⟩⟩
  have X_InvalidName : OwnX K mg "InvalidName" A_InvalidName := ⟨xInvalidNamexi, PySem.W.mg_of X G xInvalidNameg, xInvalidNamek, xInvalidNameb, xInvalidNamet, ⟨xInvalidNamega, xInvalidNamegt, xInvalidNameb, xInvalidNamed, xInvalidNamecl, xInvalidNamecn, xInvalidNamect, xInvalidNamemr⟩, ⟨_, xInvalidNamecs⟩⟩
  have X_InvalidProgram : OwnX K mg "InvalidProgram" A_InvalidProgram := ⟨xInvalidProgramxi, PySem.W.mg_of X G xInvalidProgramg, xInvalidProgramk, xInvalidProgramb, xInvalidProgramt, ⟨xInvalidProgramga, xInvalidProgramgt, xInvalidProgramb, xInvalidProgramd, xInvalidProgramcl, xInvalidProgramcn, xInvalidProgramct, xInvalidProgrammr⟩, ⟨_, xInvalidProgramcs⟩⟩
  have X_InvalidCount : OwnX K mg "InvalidCount" A_InvalidCount := ⟨xInvalidCountxi, PySem.W.mg_of X G xInvalidCountg, xInvalidCountk, xInvalidCountb, xInvalidCountt, ⟨xInvalidCountga, xInvalidCountgt, xInvalidCountb, xInvalidCountd, xInvalidCountcl, xInvalidCountcn, xInvalidCountct, xInvalidCountmr⟩, ⟨_, xInvalidCountcs⟩⟩
  have X_InvalidIndex : OwnX K mg "InvalidIndex" A_InvalidIndex := ⟨xInvalidIndexxi, PySem.W.mg_of X G xInvalidIndexg, xInvalidIndexk, xInvalidIndexb, xInvalidIndext, ⟨xInvalidIndexga, xInvalidIndexgt, xInvalidIndexb, xInvalidIndexd, xInvalidIndexcl, xInvalidIndexcn, xInvalidIndexct, xInvalidIndexmr⟩, ⟨_, xInvalidIndexcs⟩⟩
  have X_InvalidClaim : OwnX K mg "InvalidClaim" A_InvalidClaim := ⟨xInvalidClaimxi, PySem.W.mg_of X G xInvalidClaimg, xInvalidClaimk, xInvalidClaimb, xInvalidClaimt, ⟨xInvalidClaimga, xInvalidClaimgt, xInvalidClaimb, xInvalidClaimd, xInvalidClaimcl, xInvalidClaimcn, xInvalidClaimct, xInvalidClaimmr⟩, ⟨_, xInvalidClaimcs⟩⟩
  have X_NotAChain : OwnX K mg "NotAChain" A_NotAChain := ⟨xNotAChainxi, PySem.W.mg_of X G xNotAChaing, xNotAChaink, xNotAChainb, xNotAChaint, ⟨xNotAChainga, xNotAChaingt, xNotAChainb, xNotAChaind, xNotAChaincl, xNotAChaincn, xNotAChainct, xNotAChainmr⟩, ⟨_, xNotAChaincs⟩⟩
  have X_NoGreatest : OwnX K mg "NoGreatest" A_NoGreatest := ⟨xNoGreatestxi, PySem.W.mg_of X G xNoGreatestg, xNoGreatestk, xNoGreatestb, xNoGreatestt, ⟨xNoGreatestga, xNoGreatestgt, xNoGreatestb, xNoGreatestd, xNoGreatestcl, xNoGreatestcn, xNoGreatestct, xNoGreatestmr⟩, ⟨_, xNoGreatestcs⟩⟩
  have X_NoProgram : OwnX K mg "NoProgram" A_NoProgram := ⟨xNoProgramxi, PySem.W.mg_of X G xNoProgramg, xNoProgramk, xNoProgramb, xNoProgramt, ⟨xNoProgramga, xNoProgramgt, xNoProgramb, xNoProgramd, xNoProgramcl, xNoProgramcn, xNoProgramct, xNoProgrammr⟩, ⟨_, xNoProgramcs⟩⟩
  have X_NoneLeft : OwnX K mg "NoneLeft" A_NoneLeft := ⟨xNoneLeftxi, PySem.W.mg_of X G xNoneLeftg, xNoneLeftk, xNoneLeftb, xNoneLeftt, ⟨xNoneLeftga, xNoneLeftgt, xNoneLeftb, xNoneLeftd, xNoneLeftcl, xNoneLeftcn, xNoneLeftct, xNoneLeftmr⟩, ⟨_, xNoneLeftcs⟩⟩
  have X_Refused : OwnX K mg "Refused" A_Refused := ⟨xRefusedxi, PySem.W.mg_of X G xRefusedg, xRefusedk, xRefusedb, xRefusedt, ⟨xRefusedga, xRefusedgt, xRefusedb, xRefusedd, xRefusedcl, xRefusedcn, xRefusedct, xRefusedmr⟩, ⟨_, xRefusedcs⟩⟩
  have X_NothingToUndo : OwnX K mg "NothingToUndo" A_NothingToUndo := ⟨xNothingToUndoxi, PySem.W.mg_of X G xNothingToUndog, xNothingToUndok, xNothingToUndob, xNothingToUndot, ⟨xNothingToUndoga, xNothingToUndogt, xNothingToUndob, xNothingToUndod, xNothingToUndocl, xNothingToUndocn, xNothingToUndoct, xNothingToUndomr⟩, ⟨_, xNothingToUndocs⟩⟩
  have X_InvalidCommand : OwnX K mg "InvalidCommand" A_InvalidCommand := ⟨xInvalidCommandxi, PySem.W.mg_of X G xInvalidCommandg, xInvalidCommandk, xInvalidCommandb, xInvalidCommandt, ⟨xInvalidCommandga, xInvalidCommandgt, xInvalidCommandb, xInvalidCommandd, xInvalidCommandcl, xInvalidCommandcn, xInvalidCommandct, xInvalidCommandmr⟩, ⟨_, xInvalidCommandcs⟩⟩
  have g_l_bag_of := PySem.W.mg_of X G a5
  have g_l_pick := PySem.W.mg_of X G a6
  have g_l_great_int := PySem.W.mg_of X G a7
  have g_l_some_int := PySem.W.mg_of X G a8
  have g_l_some_title := PySem.W.mg_of X G a9
  have g_l_truths := PySem.W.mg_of X G a10
  have g_l_objects := PySem.W.mg_of X G a11
  have g_l_is_int := PySem.W.mg_of X G a12
  have g_l_fields := PySem.W.mg_of X G a13
  have g_l_raised := PySem.W.mg_of X G a14
  have g_law := PySem.W.mg_of X G a15
  have XI_NotShort : OwnI l.prog w K mg base "NotShort" A_NotShort "amount" := ⟨⟨oexIn_ok yNotShortoe, yNotShortsa, yNotShortb, yNotShortt, yNotShortk⟩, ⟨yNotShortga, yNotShortgt, yNotShortb, yNotShortd, yNotShortcl, yNotShortcn, yNotShortct, yNotShortmr⟩, ⟨yNotShortga, yNotShortgt, yNotShortb, yNotShortd⟩, yNotShortno, PySem.W.mg_of X G yNotShortg, yNotShortb, yNotShortt, ⟨_, yNotShortcs⟩, ⟨_, _, a1, isFn_type i1, b_NotShort___init__, ok_NotShort_init ⟨oexIn_ok yNotShortoe, yNotShortsa, yNotShortb, yNotShortt, yNotShortk⟩ yNotShortno F_NotShort___init__⟩⟩
  have XK_NotShort : OwnKw l.prog w K mg base A_NotShort "amount" := ⟨_, _, a1, isFn_type i1, kb1 (fun u ws hl => match ws, hl with | [_], _ => rfl), ok_NotShort_init XI_NotShort.oex XI_NotShort.no F_NotShort___init__⟩
  have XI_TooGreat : OwnI l.prog w K mg base "TooGreat" A_TooGreat "number" := ⟨⟨oexIn_ok yTooGreatoe, yTooGreatsa, yTooGreatb, yTooGreatt, yTooGreatk⟩, ⟨yTooGreatga, yTooGreatgt, yTooGreatb, yTooGreatd, yTooGreatcl, yTooGreatcn, yTooGreatct, yTooGreatmr⟩, ⟨yTooGreatga, yTooGreatgt, yTooGreatb, yTooGreatd⟩, yTooGreatno, PySem.W.mg_of X G yTooGreatg, yTooGreatb, yTooGreatt, ⟨_, yTooGreatcs⟩, ⟨_, _, a2, isFn_type i2, b_TooGreat___init__, ok_TooGreat_init ⟨oexIn_ok yTooGreatoe, yTooGreatsa, yTooGreatb, yTooGreatt, yTooGreatk⟩ yTooGreatno F_TooGreat___init__⟩⟩
  have XK_TooGreat : OwnKw l.prog w K mg base A_TooGreat "number" := ⟨_, _, a2, isFn_type i2, kb1 (fun u ws hl => match ws, hl with | [_], _ => rfl), ok_TooGreat_init XI_TooGreat.oex XI_TooGreat.no F_TooGreat___init__⟩
  have XI_InvalidWords : OwnI l.prog w K mg base "InvalidWords" A_InvalidWords "spot" := ⟨⟨oexIn_ok yInvalidWordsoe, yInvalidWordssa, yInvalidWordsb, yInvalidWordst, yInvalidWordsk⟩, ⟨yInvalidWordsga, yInvalidWordsgt, yInvalidWordsb, yInvalidWordsd, yInvalidWordscl, yInvalidWordscn, yInvalidWordsct, yInvalidWordsmr⟩, ⟨yInvalidWordsga, yInvalidWordsgt, yInvalidWordsb, yInvalidWordsd⟩, yInvalidWordsno, PySem.W.mg_of X G yInvalidWordsg, yInvalidWordsb, yInvalidWordst, ⟨_, yInvalidWordscs⟩, ⟨_, _, a3, isFn_type i3, b_InvalidWords___init__, ok_InvalidWords_init ⟨oexIn_ok yInvalidWordsoe, yInvalidWordssa, yInvalidWordsb, yInvalidWordst, yInvalidWordsk⟩ yInvalidWordsno F_InvalidWords___init__⟩⟩
  have XK_InvalidWords : OwnKw l.prog w K mg base A_InvalidWords "spot" := ⟨_, _, a3, isFn_type i3, kb1 (fun u ws hl => match ws, hl with | [_], _ => rfl), ok_InvalidWords_init XI_InvalidWords.oex XI_InvalidWords.no F_InvalidWords___init__⟩
  have XI_UnknownName : OwnI l.prog w K mg base "UnknownName" A_UnknownName "name" := ⟨⟨oexIn_ok yUnknownNameoe, yUnknownNamesa, yUnknownNameb, yUnknownNamet, yUnknownNamek⟩, ⟨yUnknownNamega, yUnknownNamegt, yUnknownNameb, yUnknownNamed, yUnknownNamecl, yUnknownNamecn, yUnknownNamect, yUnknownNamemr⟩, ⟨yUnknownNamega, yUnknownNamegt, yUnknownNameb, yUnknownNamed⟩, yUnknownNameno, PySem.W.mg_of X G yUnknownNameg, yUnknownNameb, yUnknownNamet, ⟨_, yUnknownNamecs⟩, ⟨_, _, a4, isFn_type i4, b_UnknownName___init__, ok_UnknownName_init ⟨oexIn_ok yUnknownNameoe, yUnknownNamesa, yUnknownNameb, yUnknownNamet, yUnknownNamek⟩ yUnknownNameno F_UnknownName___init__⟩⟩
  have XK_UnknownName : OwnKw l.prog w K mg base A_UnknownName "name" := ⟨_, _, a4, isFn_type i4, kb1 (fun u ws hl => match ws, hl with | [_], _ => rfl), ok_UnknownName_init XI_UnknownName.oex XI_UnknownName.no F_UnknownName___init__⟩
  have h_l_bag_of : Has l.prog w K mg base "_law_bag_of" 1 ["_law_cell"] spBagOf := ⟨_, _, ok_l_bag_of F_l_bag_of B_Bl, PySem.W.mg_of X G a5, k5, b_l_bag_of⟩
  have h_l_pick : Has l.prog w K mg base "_law_pick" 1 ["_law_bag", "_law_many"] spPick := ⟨_, _, ok_l_pick F_l_pick B_Bl, PySem.W.mg_of X G a6, k6, b_l_pick⟩
  have h_l_great_int : Has l.prog w K mg base "_law_great_int" 2 ["_law_bag", "_law_digits"] spGreat := ⟨_, _, ok_l_great_int F_l_great_int B_Bl h_l_pick, PySem.W.mg_of X G a7, k7, b_l_great_int⟩
  have h_l_some_int : Has l.prog w K mg base "_law_some_int" 3 ["_law_bag"] spSomeInt := ⟨_, _, ok_l_some_int F_l_some_int h_l_pick h_l_great_int, PySem.W.mg_of X G a8, k8, b_l_some_int⟩
  have h_l_some_title : Has l.prog w K mg base "_law_some_title" 2 ["_law_bag"] spTitle := ⟨_, _, ok_l_some_title F_l_some_title B_Bl h_l_pick, PySem.W.mg_of X G a9, k9, b_l_some_title⟩
  have h_l_truths : Has l.prog w K mg base "_law_truths" 1 ["_law_thing"] (spTruths K [A_InvalidPoly, A_InvalidDivisor, A_InvalidNumber, A_InvalidOrder, A_InvalidOrders, A_InvalidName, A_InvalidProgram, A_InvalidCount, A_InvalidIndex, A_InvalidClaim, A_NotAChain, A_NoGreatest, A_NoProgram, A_NoneLeft, A_Refused, A_NothingToUndo, A_InvalidCommand, A_NotShort, A_TooGreat, A_InvalidWords, A_UnknownName]) := ⟨_, _, ok_l_truths F_l_truths B_Bl B_Bl.b_isinstance X_InvalidPoly X_InvalidDivisor X_InvalidNumber X_InvalidOrder X_InvalidOrders X_InvalidName X_InvalidProgram X_InvalidCount X_InvalidIndex X_InvalidClaim X_NotAChain X_NoGreatest X_NoProgram X_NoneLeft X_Refused X_NothingToUndo X_InvalidCommand XI_NotShort XI_TooGreat XI_InvalidWords XI_UnknownName, PySem.W.mg_of X G a10, k10, b_l_truths⟩
  have h_l_objects : Has l.prog w K mg base "_law_objects" 3 ["_law_text", "_law_amounts", "_law_title"] (spObjects [A_InvalidPoly, A_InvalidDivisor, A_InvalidNumber, A_InvalidOrder, A_InvalidOrders, A_InvalidName, A_InvalidProgram, A_InvalidCount, A_InvalidIndex, A_InvalidClaim, A_NotAChain, A_NoGreatest, A_NoProgram, A_NoneLeft, A_Refused, A_NothingToUndo, A_InvalidCommand, A_NotShort, A_TooGreat, A_InvalidWords, A_UnknownName]) := ⟨_, _, ok_l_objects F_l_objects B_Bl B_Bl.b_isinstance X_InvalidPoly X_InvalidDivisor X_InvalidNumber X_InvalidOrder X_InvalidOrders X_InvalidName X_InvalidProgram X_InvalidCount X_InvalidIndex X_InvalidClaim X_NotAChain X_NoGreatest X_NoProgram X_NoneLeft X_Refused X_NothingToUndo X_InvalidCommand XI_NotShort XI_TooGreat XI_InvalidWords XI_UnknownName, PySem.W.mg_of X G a11, k11, b_l_objects⟩
  have h_l_is_int : Has l.prog w K mg base "_law_is_int" 1 ["_law_thing"] spIsI0 := ⟨_, _, ok_l_is_int F_l_is_int B_Bl, PySem.W.mg_of X G a12, k12, b_l_is_int⟩
  have h_l_fields : Has l.prog w K mg base "_law_fields" 2 ["_law_made", "_law_amounts", "_law_title"] (spFields [A_InvalidPoly, A_InvalidDivisor, A_InvalidNumber, A_InvalidOrder, A_InvalidOrders, A_InvalidName, A_InvalidProgram, A_InvalidCount, A_InvalidIndex, A_InvalidClaim, A_NotAChain, A_NoGreatest, A_NoProgram, A_NoneLeft, A_Refused, A_NothingToUndo, A_InvalidCommand, A_NotShort, A_TooGreat, A_InvalidWords, A_UnknownName]) := ⟨_, _, ok_l_fields F_l_fields B_Bl B_Bl.b_all XI_NotShort XI_TooGreat XI_InvalidWords XI_UnknownName h_l_is_int, PySem.W.mg_of X G a13, k13, b_l_fields⟩
  have h_l_raised : Has l.prog w K mg base "_law_raised" 3 ["_law_way", "_law_worth"] (spRaised4 A_NotShort A_TooGreat A_InvalidWords A_UnknownName) := ⟨_, _, ok_l_raised F_l_raised B_Bl X_AngleError XI_NotShort XI_TooGreat XI_InvalidWords XI_UnknownName uNotShort_AngleError uTooGreat_AngleError uInvalidWords_AngleError uUnknownName_AngleError, PySem.W.mg_of X G a14, k14, b_l_raised⟩
  exact ok_law F_law B_Bl B_Bl.b_len B_Bl.b_range B_BlA.b_any B_Bl.b_isinstance B_BlA.b_ValueError X_InvalidPoly X_InvalidDivisor X_InvalidNumber X_InvalidOrder X_InvalidOrders X_InvalidName X_InvalidProgram X_InvalidCount X_InvalidIndex X_InvalidClaim X_NotAChain X_NoGreatest X_NoProgram X_NoneLeft X_Refused X_NothingToUndo X_InvalidCommand X_AngleError XI_NotShort XK_NotShort XI_TooGreat XK_TooGreat XI_InvalidWords XK_InvalidWords XI_UnknownName XK_UnknownName uMat uAng uVal uAV h_l_bag_of h_l_pick h_l_some_int h_l_some_title h_l_truths h_l_objects h_l_fields h_l_raised
theorem hd_facts {l : PySem.W.OpenLaw} {w : World} {K : PySem.W.Frag} {h : Heap} {mg : Str → Option Value} {fa : Addr} (X : K.In h) (G : h.Ns mainGlobals mg) (hfa : mg "law" = some (.ref fa)) (c : hdObs K = hdVal w)
    : ∃ fd : FuncData, (∀ (s : Shared) (v : Value), BindsTo s fd ⟨[v], []⟩ [("_law_script", v)]) ∧ ∀ base : Heap, K.In base → base.Ns mainGlobals mg → FnOk l.prog w K mg base CX0 5 fa fd ["_law_script"] (spLaw K) := by
  have c1 := congrArg (fun z : HdA => z.1) c
  have c2 := congrArg (fun z : HdA => z.2.1) c
  have pt : hdt K = hdw w := congrArg (fun z : HdA => z.2.2) c
  have q0 : (hdc0 K).all id = true := list_at c1 (i := 0) rfl rfl
  have q1 : (hdc1 K).all id = true := list_at c1 (i := 1) rfl rfl
  have q2 : (hdc2 K).all id = true := list_at c1 (i := 2) rfl rfl
  have q3 : (hdc3 K).all id = true := list_at c1 (i := 3) rfl rfl
  have q4 : (hdc4 K).all id = true := list_at c1 (i := 4) rfl rfl
  have q5 : (hdc5 K).all id = true := list_at c1 (i := 5) rfl rfl
  have q6 : (hdc6 K).all id = true := list_at c1 (i := 6) rfl rfl
  have q7 : (hdc7 K).all id = true := list_at c1 (i := 7) rfl rfl
  have q8 : (hdc8 K).all id = true := list_at c1 (i := 8) rfl rfl
  have q9 : (hdc9 K).all id = true := list_at c1 (i := 9) rfl rfl
  have q10 : (hdc10 K).all id = true := list_at c1 (i := 10) rfl rfl
  have q11 : (hdc11 K).all id = true := list_at c1 (i := 11) rfl rfl
  have q12 : (hdc12 K).all id = true := list_at c1 (i := 12) rfl rfl
  have p0 : hdf0 K = hdv0 := list_at c2 (i := 0) rfl rfl
  clear c c1 c2
  have xAngleErrorg : PySem.W.nsIn K mainGlobals "AngleError" = some (some (.ref (He.ga K "AngleError"))) := He.eqO_ok (all_at q0 (i := 0) rfl)
  have xAngleErrorxi : PySem.W.excIn K (He.ga K "AngleError") [.type "ValueError", .type "Exception", .type "BaseException", .type "object"] "ValueError.__new__" = true := (all_at q0 (i := 1) rfl)
  have xAngleErrork : PySem.W.keepIn K (.ref (He.ga K "AngleError")) = true := (all_at q0 (i := 2) rfl)
  have xAngleErrorb : PySem.W.subIn K (.ref (He.ga K "AngleError")) (.type "BaseException") = some true := of_decide_eq_true (all_at q0 (i := 3) rfl)
  have xAngleErrort : PySem.W.typeIn K (.ref (He.ga K "AngleError")) = some (.type "type") := of_decide_eq_true (all_at q0 (i := 4) rfl)
  have xAngleErrorga : PySem.W.findIn K (.ref (He.ga K "AngleError")) "__getattribute__" = some (some (.builtin "BaseException.__getattribute__")) := He.eqO_ok (all_at q0 (i := 5) rfl)
  have xAngleErrorgt : PySem.W.findIn K (.ref (He.ga K "AngleError")) "__getattr__" = some none := He.eqO_ok (all_at q0 (i := 6) rfl)
  have xAngleErrord : PySem.W.hasDictIn K (He.ga K "AngleError") = true := (all_at q0 (i := 7) rfl)
  have xAngleErrorcl : PySem.W.findIn K (.ref (He.ga K "AngleError")) "__class__" = some (some (.builtin "object.__class__")) := He.eqO_ok (all_at q0 (i := 8) rfl)
  have xAngleErrorcn : PySem.W.specialIn K (.builtin "object.__class__") "__get__" = some (some (.builtin "getset_descriptor.__get__")) := He.eqO_ok (all_at q0 (i := 9) rfl)
  have xAngleErrorct : PySem.W.takesIn K (.builtin "object.__class__") = some true := of_decide_eq_true (all_at q0 (i := 10) rfl)
  have xAngleErrormr : PySem.W.mroIn K (He.ga K "AngleError") (.type "object") = some true := of_decide_eq_true (all_at q0 (i := 11) rfl)
  obtain ⟨cd_AngleError, xAngleErrorcs⟩ := some_at (all_at q0 (i := 12) rfl)
  have xInvalidPolyg : PySem.W.nsIn K mainGlobals "InvalidPoly" = some (some (.ref (He.ga K "InvalidPoly"))) := He.eqO_ok (all_at q0 (i := 13) rfl)
  have xInvalidPolyxi : PySem.W.excIn K (He.ga K "InvalidPoly") [.type "ValueError", .type "Exception", .type "BaseException", .type "object"] "ValueError.__new__" = true := (all_at q0 (i := 14) rfl)
  have xInvalidPolyk : PySem.W.keepIn K (.ref (He.ga K "InvalidPoly")) = true := (all_at q0 (i := 15) rfl)
  have xInvalidPolyb : PySem.W.subIn K (.ref (He.ga K "InvalidPoly")) (.type "BaseException") = some true := of_decide_eq_true (all_at q0 (i := 16) rfl)
  have xInvalidPolyt : PySem.W.typeIn K (.ref (He.ga K "InvalidPoly")) = some (.type "type") := of_decide_eq_true (all_at q0 (i := 17) rfl)
  have xInvalidPolyga : PySem.W.findIn K (.ref (He.ga K "InvalidPoly")) "__getattribute__" = some (some (.builtin "BaseException.__getattribute__")) := He.eqO_ok (all_at q0 (i := 18) rfl)
  have xInvalidPolygt : PySem.W.findIn K (.ref (He.ga K "InvalidPoly")) "__getattr__" = some none := He.eqO_ok (all_at q0 (i := 19) rfl)
  have xInvalidPolyd : PySem.W.hasDictIn K (He.ga K "InvalidPoly") = true := (all_at q0 (i := 20) rfl)
  have xInvalidPolycl : PySem.W.findIn K (.ref (He.ga K "InvalidPoly")) "__class__" = some (some (.builtin "object.__class__")) := He.eqO_ok (all_at q0 (i := 21) rfl)
  have xInvalidPolycn : PySem.W.specialIn K (.builtin "object.__class__") "__get__" = some (some (.builtin "getset_descriptor.__get__")) := He.eqO_ok (all_at q0 (i := 22) rfl)
  have xInvalidPolyct : PySem.W.takesIn K (.builtin "object.__class__") = some true := of_decide_eq_true (all_at q0 (i := 23) rfl)
  have xInvalidPolymr : PySem.W.mroIn K (He.ga K "InvalidPoly") (.type "object") = some true := of_decide_eq_true (all_at q0 (i := 24) rfl)
  obtain ⟨cd_InvalidPoly, xInvalidPolycs⟩ := some_at (all_at q0 (i := 25) rfl)
  have xInvalidDivisorg : PySem.W.nsIn K mainGlobals "InvalidDivisor" = some (some (.ref (He.ga K "InvalidDivisor"))) := He.eqO_ok (all_at q0 (i := 26) rfl)
  have xInvalidDivisorxi : PySem.W.excIn K (He.ga K "InvalidDivisor") [.type "ValueError", .type "Exception", .type "BaseException", .type "object"] "ValueError.__new__" = true := (all_at q0 (i := 27) rfl)
  have xInvalidDivisork : PySem.W.keepIn K (.ref (He.ga K "InvalidDivisor")) = true := (all_at q0 (i := 28) rfl)
  have xInvalidDivisorb : PySem.W.subIn K (.ref (He.ga K "InvalidDivisor")) (.type "BaseException") = some true := of_decide_eq_true (all_at q0 (i := 29) rfl)
  have xInvalidDivisort : PySem.W.typeIn K (.ref (He.ga K "InvalidDivisor")) = some (.type "type") := of_decide_eq_true (all_at q1 (i := 0) rfl)
  have xInvalidDivisorga : PySem.W.findIn K (.ref (He.ga K "InvalidDivisor")) "__getattribute__" = some (some (.builtin "BaseException.__getattribute__")) := He.eqO_ok (all_at q1 (i := 1) rfl)
  have xInvalidDivisorgt : PySem.W.findIn K (.ref (He.ga K "InvalidDivisor")) "__getattr__" = some none := He.eqO_ok (all_at q1 (i := 2) rfl)
  have xInvalidDivisord : PySem.W.hasDictIn K (He.ga K "InvalidDivisor") = true := (all_at q1 (i := 3) rfl)
  have xInvalidDivisorcl : PySem.W.findIn K (.ref (He.ga K "InvalidDivisor")) "__class__" = some (some (.builtin "object.__class__")) := He.eqO_ok (all_at q1 (i := 4) rfl)
  have xInvalidDivisorcn : PySem.W.specialIn K (.builtin "object.__class__") "__get__" = some (some (.builtin "getset_descriptor.__get__")) := He.eqO_ok (all_at q1 (i := 5) rfl)
  have xInvalidDivisorct : PySem.W.takesIn K (.builtin "object.__class__") = some true := of_decide_eq_true (all_at q1 (i := 6) rfl)
  have xInvalidDivisormr : PySem.W.mroIn K (He.ga K "InvalidDivisor") (.type "object") = some true := of_decide_eq_true (all_at q1 (i := 7) rfl)
  obtain ⟨cd_InvalidDivisor, xInvalidDivisorcs⟩ := some_at (all_at q1 (i := 8) rfl)
  have xInvalidNumberg : PySem.W.nsIn K mainGlobals "InvalidNumber" = some (some (.ref (He.ga K "InvalidNumber"))) := He.eqO_ok (all_at q1 (i := 9) rfl)
  have xInvalidNumberxi : PySem.W.excIn K (He.ga K "InvalidNumber") [.type "ValueError", .type "Exception", .type "BaseException", .type "object"] "ValueError.__new__" = true := (all_at q1 (i := 10) rfl)
  have xInvalidNumberk : PySem.W.keepIn K (.ref (He.ga K "InvalidNumber")) = true := (all_at q1 (i := 11) rfl)
  have xInvalidNumberb : PySem.W.subIn K (.ref (He.ga K "InvalidNumber")) (.type "BaseException") = some true := of_decide_eq_true (all_at q1 (i := 12) rfl)
  have xInvalidNumbert : PySem.W.typeIn K (.ref (He.ga K "InvalidNumber")) = some (.type "type") := of_decide_eq_true (all_at q1 (i := 13) rfl)
  have xInvalidNumberga : PySem.W.findIn K (.ref (He.ga K "InvalidNumber")) "__getattribute__" = some (some (.builtin "BaseException.__getattribute__")) := He.eqO_ok (all_at q1 (i := 14) rfl)
  have xInvalidNumbergt : PySem.W.findIn K (.ref (He.ga K "InvalidNumber")) "__getattr__" = some none := He.eqO_ok (all_at q1 (i := 15) rfl)
  have xInvalidNumberd : PySem.W.hasDictIn K (He.ga K "InvalidNumber") = true := (all_at q1 (i := 16) rfl)
  have xInvalidNumbercl : PySem.W.findIn K (.ref (He.ga K "InvalidNumber")) "__class__" = some (some (.builtin "object.__class__")) := He.eqO_ok (all_at q1 (i := 17) rfl)
  have xInvalidNumbercn : PySem.W.specialIn K (.builtin "object.__class__") "__get__" = some (some (.builtin "getset_descriptor.__get__")) := He.eqO_ok (all_at q1 (i := 18) rfl)
  have xInvalidNumberct : PySem.W.takesIn K (.builtin "object.__class__") = some true := of_decide_eq_true (all_at q1 (i := 19) rfl)
  have xInvalidNumbermr : PySem.W.mroIn K (He.ga K "InvalidNumber") (.type "object") = some true := of_decide_eq_true (all_at q1 (i := 20) rfl)
  obtain ⟨cd_InvalidNumber, xInvalidNumbercs⟩ := some_at (all_at q1 (i := 21) rfl)
  have xInvalidOrderg : PySem.W.nsIn K mainGlobals "InvalidOrder" = some (some (.ref (He.ga K "InvalidOrder"))) := He.eqO_ok (all_at q1 (i := 22) rfl)
  have xInvalidOrderxi : PySem.W.excIn K (He.ga K "InvalidOrder") [.type "ValueError", .type "Exception", .type "BaseException", .type "object"] "ValueError.__new__" = true := (all_at q1 (i := 23) rfl)
  have xInvalidOrderk : PySem.W.keepIn K (.ref (He.ga K "InvalidOrder")) = true := (all_at q1 (i := 24) rfl)
  have xInvalidOrderb : PySem.W.subIn K (.ref (He.ga K "InvalidOrder")) (.type "BaseException") = some true := of_decide_eq_true (all_at q1 (i := 25) rfl)
  have xInvalidOrdert : PySem.W.typeIn K (.ref (He.ga K "InvalidOrder")) = some (.type "type") := of_decide_eq_true (all_at q1 (i := 26) rfl)
  have xInvalidOrderga : PySem.W.findIn K (.ref (He.ga K "InvalidOrder")) "__getattribute__" = some (some (.builtin "BaseException.__getattribute__")) := He.eqO_ok (all_at q1 (i := 27) rfl)
  have xInvalidOrdergt : PySem.W.findIn K (.ref (He.ga K "InvalidOrder")) "__getattr__" = some none := He.eqO_ok (all_at q1 (i := 28) rfl)
  have xInvalidOrderd : PySem.W.hasDictIn K (He.ga K "InvalidOrder") = true := (all_at q1 (i := 29) rfl)
  have xInvalidOrdercl : PySem.W.findIn K (.ref (He.ga K "InvalidOrder")) "__class__" = some (some (.builtin "object.__class__")) := He.eqO_ok (all_at q2 (i := 0) rfl)
  have xInvalidOrdercn : PySem.W.specialIn K (.builtin "object.__class__") "__get__" = some (some (.builtin "getset_descriptor.__get__")) := He.eqO_ok (all_at q2 (i := 1) rfl)
  have xInvalidOrderct : PySem.W.takesIn K (.builtin "object.__class__") = some true := of_decide_eq_true (all_at q2 (i := 2) rfl)
  have xInvalidOrdermr : PySem.W.mroIn K (He.ga K "InvalidOrder") (.type "object") = some true := of_decide_eq_true (all_at q2 (i := 3) rfl)
  obtain ⟨cd_InvalidOrder, xInvalidOrdercs⟩ := some_at (all_at q2 (i := 4) rfl)
  have xInvalidOrdersg : PySem.W.nsIn K mainGlobals "InvalidOrders" = some (some (.ref (He.ga K "InvalidOrders"))) := He.eqO_ok (all_at q2 (i := 5) rfl)
  have xInvalidOrdersxi : PySem.W.excIn K (He.ga K "InvalidOrders") [.type "ValueError", .type "Exception", .type "BaseException", .type "object"] "ValueError.__new__" = true := (all_at q2 (i := 6) rfl)
  have xInvalidOrdersk : PySem.W.keepIn K (.ref (He.ga K "InvalidOrders")) = true := (all_at q2 (i := 7) rfl)
  have xInvalidOrdersb : PySem.W.subIn K (.ref (He.ga K "InvalidOrders")) (.type "BaseException") = some true := of_decide_eq_true (all_at q2 (i := 8) rfl)
  have xInvalidOrderst : PySem.W.typeIn K (.ref (He.ga K "InvalidOrders")) = some (.type "type") := of_decide_eq_true (all_at q2 (i := 9) rfl)
  have xInvalidOrdersga : PySem.W.findIn K (.ref (He.ga K "InvalidOrders")) "__getattribute__" = some (some (.builtin "BaseException.__getattribute__")) := He.eqO_ok (all_at q2 (i := 10) rfl)
  have xInvalidOrdersgt : PySem.W.findIn K (.ref (He.ga K "InvalidOrders")) "__getattr__" = some none := He.eqO_ok (all_at q2 (i := 11) rfl)
  have xInvalidOrdersd : PySem.W.hasDictIn K (He.ga K "InvalidOrders") = true := (all_at q2 (i := 12) rfl)
  have xInvalidOrderscl : PySem.W.findIn K (.ref (He.ga K "InvalidOrders")) "__class__" = some (some (.builtin "object.__class__")) := He.eqO_ok (all_at q2 (i := 13) rfl)
  have xInvalidOrderscn : PySem.W.specialIn K (.builtin "object.__class__") "__get__" = some (some (.builtin "getset_descriptor.__get__")) := He.eqO_ok (all_at q2 (i := 14) rfl)
  have xInvalidOrdersct : PySem.W.takesIn K (.builtin "object.__class__") = some true := of_decide_eq_true (all_at q2 (i := 15) rfl)
  have xInvalidOrdersmr : PySem.W.mroIn K (He.ga K "InvalidOrders") (.type "object") = some true := of_decide_eq_true (all_at q2 (i := 16) rfl)
  obtain ⟨cd_InvalidOrders, xInvalidOrderscs⟩ := some_at (all_at q2 (i := 17) rfl)
  have xInvalidNameg : PySem.W.nsIn K mainGlobals "InvalidName" = some (some (.ref (He.ga K "InvalidName"))) := He.eqO_ok (all_at q2 (i := 18) rfl)
  have xInvalidNamexi : PySem.W.excIn K (He.ga K "InvalidName") [.type "ValueError", .type "Exception", .type "BaseException", .type "object"] "ValueError.__new__" = true := (all_at q2 (i := 19) rfl)
  have xInvalidNamek : PySem.W.keepIn K (.ref (He.ga K "InvalidName")) = true := (all_at q2 (i := 20) rfl)
  have xInvalidNameb : PySem.W.subIn K (.ref (He.ga K "InvalidName")) (.type "BaseException") = some true := of_decide_eq_true (all_at q2 (i := 21) rfl)
  have xInvalidNamet : PySem.W.typeIn K (.ref (He.ga K "InvalidName")) = some (.type "type") := of_decide_eq_true (all_at q2 (i := 22) rfl)
  have xInvalidNamega : PySem.W.findIn K (.ref (He.ga K "InvalidName")) "__getattribute__" = some (some (.builtin "BaseException.__getattribute__")) := He.eqO_ok (all_at q2 (i := 23) rfl)
  have xInvalidNamegt : PySem.W.findIn K (.ref (He.ga K "InvalidName")) "__getattr__" = some none := He.eqO_ok (all_at q2 (i := 24) rfl)
  have xInvalidNamed : PySem.W.hasDictIn K (He.ga K "InvalidName") = true := (all_at q2 (i := 25) rfl)
  have xInvalidNamecl : PySem.W.findIn K (.ref (He.ga K "InvalidName")) "__class__" = some (some (.builtin "object.__class__")) := He.eqO_ok (all_at q2 (i := 26) rfl)
  have xInvalidNamecn : PySem.W.specialIn K (.builtin "object.__class__") "__get__" = some (some (.builtin "getset_descriptor.__get__")) := He.eqO_ok (all_at q2 (i := 27) rfl)
  have xInvalidNamect : PySem.W.takesIn K (.builtin "object.__class__") = some true := of_decide_eq_true (all_at q2 (i := 28) rfl)
  have xInvalidNamemr : PySem.W.mroIn K (He.ga K "InvalidName") (.type "object") = some true := of_decide_eq_true (all_at q2 (i := 29) rfl)
  obtain ⟨cd_InvalidName, xInvalidNamecs⟩ := some_at (all_at q3 (i := 0) rfl)
  have xInvalidProgramg : PySem.W.nsIn K mainGlobals "InvalidProgram" = some (some (.ref (He.ga K "InvalidProgram"))) := He.eqO_ok (all_at q3 (i := 1) rfl)
  have xInvalidProgramxi : PySem.W.excIn K (He.ga K "InvalidProgram") [.type "ValueError", .type "Exception", .type "BaseException", .type "object"] "ValueError.__new__" = true := (all_at q3 (i := 2) rfl)
  have xInvalidProgramk : PySem.W.keepIn K (.ref (He.ga K "InvalidProgram")) = true := (all_at q3 (i := 3) rfl)
  have xInvalidProgramb : PySem.W.subIn K (.ref (He.ga K "InvalidProgram")) (.type "BaseException") = some true := of_decide_eq_true (all_at q3 (i := 4) rfl)
  have xInvalidProgramt : PySem.W.typeIn K (.ref (He.ga K "InvalidProgram")) = some (.type "type") := of_decide_eq_true (all_at q3 (i := 5) rfl)
  have xInvalidProgramga : PySem.W.findIn K (.ref (He.ga K "InvalidProgram")) "__getattribute__" = some (some (.builtin "BaseException.__getattribute__")) := He.eqO_ok (all_at q3 (i := 6) rfl)
  have xInvalidProgramgt : PySem.W.findIn K (.ref (He.ga K "InvalidProgram")) "__getattr__" = some none := He.eqO_ok (all_at q3 (i := 7) rfl)
  have xInvalidProgramd : PySem.W.hasDictIn K (He.ga K "InvalidProgram") = true := (all_at q3 (i := 8) rfl)
  have xInvalidProgramcl : PySem.W.findIn K (.ref (He.ga K "InvalidProgram")) "__class__" = some (some (.builtin "object.__class__")) := He.eqO_ok (all_at q3 (i := 9) rfl)
  have xInvalidProgramcn : PySem.W.specialIn K (.builtin "object.__class__") "__get__" = some (some (.builtin "getset_descriptor.__get__")) := He.eqO_ok (all_at q3 (i := 10) rfl)
  have xInvalidProgramct : PySem.W.takesIn K (.builtin "object.__class__") = some true := of_decide_eq_true (all_at q3 (i := 11) rfl)
  have xInvalidProgrammr : PySem.W.mroIn K (He.ga K "InvalidProgram") (.type "object") = some true := of_decide_eq_true (all_at q3 (i := 12) rfl)
  obtain ⟨cd_InvalidProgram, xInvalidProgramcs⟩ := some_at (all_at q3 (i := 13) rfl)
  have xInvalidCountg : PySem.W.nsIn K mainGlobals "InvalidCount" = some (some (.ref (He.ga K "InvalidCount"))) := He.eqO_ok (all_at q3 (i := 14) rfl)
  have xInvalidCountxi : PySem.W.excIn K (He.ga K "InvalidCount") [.type "ValueError", .type "Exception", .type "BaseException", .type "object"] "ValueError.__new__" = true := (all_at q3 (i := 15) rfl)
  have xInvalidCountk : PySem.W.keepIn K (.ref (He.ga K "InvalidCount")) = true := (all_at q3 (i := 16) rfl)
  have xInvalidCountb : PySem.W.subIn K (.ref (He.ga K "InvalidCount")) (.type "BaseException") = some true := of_decide_eq_true (all_at q3 (i := 17) rfl)
  have xInvalidCountt : PySem.W.typeIn K (.ref (He.ga K "InvalidCount")) = some (.type "type") := of_decide_eq_true (all_at q3 (i := 18) rfl)
  have xInvalidCountga : PySem.W.findIn K (.ref (He.ga K "InvalidCount")) "__getattribute__" = some (some (.builtin "BaseException.__getattribute__")) := He.eqO_ok (all_at q3 (i := 19) rfl)
  have xInvalidCountgt : PySem.W.findIn K (.ref (He.ga K "InvalidCount")) "__getattr__" = some none := He.eqO_ok (all_at q3 (i := 20) rfl)
  have xInvalidCountd : PySem.W.hasDictIn K (He.ga K "InvalidCount") = true := (all_at q3 (i := 21) rfl)
  have xInvalidCountcl : PySem.W.findIn K (.ref (He.ga K "InvalidCount")) "__class__" = some (some (.builtin "object.__class__")) := He.eqO_ok (all_at q3 (i := 22) rfl)
  have xInvalidCountcn : PySem.W.specialIn K (.builtin "object.__class__") "__get__" = some (some (.builtin "getset_descriptor.__get__")) := He.eqO_ok (all_at q3 (i := 23) rfl)
  have xInvalidCountct : PySem.W.takesIn K (.builtin "object.__class__") = some true := of_decide_eq_true (all_at q3 (i := 24) rfl)
  have xInvalidCountmr : PySem.W.mroIn K (He.ga K "InvalidCount") (.type "object") = some true := of_decide_eq_true (all_at q3 (i := 25) rfl)
  obtain ⟨cd_InvalidCount, xInvalidCountcs⟩ := some_at (all_at q3 (i := 26) rfl)
  have xInvalidIndexg : PySem.W.nsIn K mainGlobals "InvalidIndex" = some (some (.ref (He.ga K "InvalidIndex"))) := He.eqO_ok (all_at q3 (i := 27) rfl)
  have xInvalidIndexxi : PySem.W.excIn K (He.ga K "InvalidIndex") [.type "ValueError", .type "Exception", .type "BaseException", .type "object"] "ValueError.__new__" = true := (all_at q3 (i := 28) rfl)
  have xInvalidIndexk : PySem.W.keepIn K (.ref (He.ga K "InvalidIndex")) = true := (all_at q3 (i := 29) rfl)
  have xInvalidIndexb : PySem.W.subIn K (.ref (He.ga K "InvalidIndex")) (.type "BaseException") = some true := of_decide_eq_true (all_at q4 (i := 0) rfl)
  have xInvalidIndext : PySem.W.typeIn K (.ref (He.ga K "InvalidIndex")) = some (.type "type") := of_decide_eq_true (all_at q4 (i := 1) rfl)
  have xInvalidIndexga : PySem.W.findIn K (.ref (He.ga K "InvalidIndex")) "__getattribute__" = some (some (.builtin "BaseException.__getattribute__")) := He.eqO_ok (all_at q4 (i := 2) rfl)
  have xInvalidIndexgt : PySem.W.findIn K (.ref (He.ga K "InvalidIndex")) "__getattr__" = some none := He.eqO_ok (all_at q4 (i := 3) rfl)
  have xInvalidIndexd : PySem.W.hasDictIn K (He.ga K "InvalidIndex") = true := (all_at q4 (i := 4) rfl)
  have xInvalidIndexcl : PySem.W.findIn K (.ref (He.ga K "InvalidIndex")) "__class__" = some (some (.builtin "object.__class__")) := He.eqO_ok (all_at q4 (i := 5) rfl)
  have xInvalidIndexcn : PySem.W.specialIn K (.builtin "object.__class__") "__get__" = some (some (.builtin "getset_descriptor.__get__")) := He.eqO_ok (all_at q4 (i := 6) rfl)
  have xInvalidIndexct : PySem.W.takesIn K (.builtin "object.__class__") = some true := of_decide_eq_true (all_at q4 (i := 7) rfl)
  have xInvalidIndexmr : PySem.W.mroIn K (He.ga K "InvalidIndex") (.type "object") = some true := of_decide_eq_true (all_at q4 (i := 8) rfl)
  obtain ⟨cd_InvalidIndex, xInvalidIndexcs⟩ := some_at (all_at q4 (i := 9) rfl)
  have xInvalidClaimg : PySem.W.nsIn K mainGlobals "InvalidClaim" = some (some (.ref (He.ga K "InvalidClaim"))) := He.eqO_ok (all_at q4 (i := 10) rfl)
  have xInvalidClaimxi : PySem.W.excIn K (He.ga K "InvalidClaim") [.type "ValueError", .type "Exception", .type "BaseException", .type "object"] "ValueError.__new__" = true := (all_at q4 (i := 11) rfl)
  have xInvalidClaimk : PySem.W.keepIn K (.ref (He.ga K "InvalidClaim")) = true := (all_at q4 (i := 12) rfl)
  have xInvalidClaimb : PySem.W.subIn K (.ref (He.ga K "InvalidClaim")) (.type "BaseException") = some true := of_decide_eq_true (all_at q4 (i := 13) rfl)
  have xInvalidClaimt : PySem.W.typeIn K (.ref (He.ga K "InvalidClaim")) = some (.type "type") := of_decide_eq_true (all_at q4 (i := 14) rfl)
  have xInvalidClaimga : PySem.W.findIn K (.ref (He.ga K "InvalidClaim")) "__getattribute__" = some (some (.builtin "BaseException.__getattribute__")) := He.eqO_ok (all_at q4 (i := 15) rfl)
  have xInvalidClaimgt : PySem.W.findIn K (.ref (He.ga K "InvalidClaim")) "__getattr__" = some none := He.eqO_ok (all_at q4 (i := 16) rfl)
  have xInvalidClaimd : PySem.W.hasDictIn K (He.ga K "InvalidClaim") = true := (all_at q4 (i := 17) rfl)
  have xInvalidClaimcl : PySem.W.findIn K (.ref (He.ga K "InvalidClaim")) "__class__" = some (some (.builtin "object.__class__")) := He.eqO_ok (all_at q4 (i := 18) rfl)
  have xInvalidClaimcn : PySem.W.specialIn K (.builtin "object.__class__") "__get__" = some (some (.builtin "getset_descriptor.__get__")) := He.eqO_ok (all_at q4 (i := 19) rfl)
  have xInvalidClaimct : PySem.W.takesIn K (.builtin "object.__class__") = some true := of_decide_eq_true (all_at q4 (i := 20) rfl)
  have xInvalidClaimmr : PySem.W.mroIn K (He.ga K "InvalidClaim") (.type "object") = some true := of_decide_eq_true (all_at q4 (i := 21) rfl)
  obtain ⟨cd_InvalidClaim, xInvalidClaimcs⟩ := some_at (all_at q4 (i := 22) rfl)
  have xNotAChaing : PySem.W.nsIn K mainGlobals "NotAChain" = some (some (.ref (He.ga K "NotAChain"))) := He.eqO_ok (all_at q4 (i := 23) rfl)
  have xNotAChainxi : PySem.W.excIn K (He.ga K "NotAChain") [.type "ValueError", .type "Exception", .type "BaseException", .type "object"] "ValueError.__new__" = true := (all_at q4 (i := 24) rfl)
  have xNotAChaink : PySem.W.keepIn K (.ref (He.ga K "NotAChain")) = true := (all_at q4 (i := 25) rfl)
  have xNotAChainb : PySem.W.subIn K (.ref (He.ga K "NotAChain")) (.type "BaseException") = some true := of_decide_eq_true (all_at q4 (i := 26) rfl)
  have xNotAChaint : PySem.W.typeIn K (.ref (He.ga K "NotAChain")) = some (.type "type") := of_decide_eq_true (all_at q4 (i := 27) rfl)
  have xNotAChainga : PySem.W.findIn K (.ref (He.ga K "NotAChain")) "__getattribute__" = some (some (.builtin "BaseException.__getattribute__")) := He.eqO_ok (all_at q4 (i := 28) rfl)
  have xNotAChaingt : PySem.W.findIn K (.ref (He.ga K "NotAChain")) "__getattr__" = some none := He.eqO_ok (all_at q4 (i := 29) rfl)
  have xNotAChaind : PySem.W.hasDictIn K (He.ga K "NotAChain") = true := (all_at q5 (i := 0) rfl)
  have xNotAChaincl : PySem.W.findIn K (.ref (He.ga K "NotAChain")) "__class__" = some (some (.builtin "object.__class__")) := He.eqO_ok (all_at q5 (i := 1) rfl)
  have xNotAChaincn : PySem.W.specialIn K (.builtin "object.__class__") "__get__" = some (some (.builtin "getset_descriptor.__get__")) := He.eqO_ok (all_at q5 (i := 2) rfl)
  have xNotAChainct : PySem.W.takesIn K (.builtin "object.__class__") = some true := of_decide_eq_true (all_at q5 (i := 3) rfl)
  have xNotAChainmr : PySem.W.mroIn K (He.ga K "NotAChain") (.type "object") = some true := of_decide_eq_true (all_at q5 (i := 4) rfl)
  obtain ⟨cd_NotAChain, xNotAChaincs⟩ := some_at (all_at q5 (i := 5) rfl)
  have xNoGreatestg : PySem.W.nsIn K mainGlobals "NoGreatest" = some (some (.ref (He.ga K "NoGreatest"))) := He.eqO_ok (all_at q5 (i := 6) rfl)
  have xNoGreatestxi : PySem.W.excIn K (He.ga K "NoGreatest") [.type "ValueError", .type "Exception", .type "BaseException", .type "object"] "ValueError.__new__" = true := (all_at q5 (i := 7) rfl)
  have xNoGreatestk : PySem.W.keepIn K (.ref (He.ga K "NoGreatest")) = true := (all_at q5 (i := 8) rfl)
  have xNoGreatestb : PySem.W.subIn K (.ref (He.ga K "NoGreatest")) (.type "BaseException") = some true := of_decide_eq_true (all_at q5 (i := 9) rfl)
  have xNoGreatestt : PySem.W.typeIn K (.ref (He.ga K "NoGreatest")) = some (.type "type") := of_decide_eq_true (all_at q5 (i := 10) rfl)
  have xNoGreatestga : PySem.W.findIn K (.ref (He.ga K "NoGreatest")) "__getattribute__" = some (some (.builtin "BaseException.__getattribute__")) := He.eqO_ok (all_at q5 (i := 11) rfl)
  have xNoGreatestgt : PySem.W.findIn K (.ref (He.ga K "NoGreatest")) "__getattr__" = some none := He.eqO_ok (all_at q5 (i := 12) rfl)
  have xNoGreatestd : PySem.W.hasDictIn K (He.ga K "NoGreatest") = true := (all_at q5 (i := 13) rfl)
  have xNoGreatestcl : PySem.W.findIn K (.ref (He.ga K "NoGreatest")) "__class__" = some (some (.builtin "object.__class__")) := He.eqO_ok (all_at q5 (i := 14) rfl)
  have xNoGreatestcn : PySem.W.specialIn K (.builtin "object.__class__") "__get__" = some (some (.builtin "getset_descriptor.__get__")) := He.eqO_ok (all_at q5 (i := 15) rfl)
  have xNoGreatestct : PySem.W.takesIn K (.builtin "object.__class__") = some true := of_decide_eq_true (all_at q5 (i := 16) rfl)
  have xNoGreatestmr : PySem.W.mroIn K (He.ga K "NoGreatest") (.type "object") = some true := of_decide_eq_true (all_at q5 (i := 17) rfl)
  obtain ⟨cd_NoGreatest, xNoGreatestcs⟩ := some_at (all_at q5 (i := 18) rfl)
  have xNoProgramg : PySem.W.nsIn K mainGlobals "NoProgram" = some (some (.ref (He.ga K "NoProgram"))) := He.eqO_ok (all_at q5 (i := 19) rfl)
  have xNoProgramxi : PySem.W.excIn K (He.ga K "NoProgram") [.type "ValueError", .type "Exception", .type "BaseException", .type "object"] "ValueError.__new__" = true := (all_at q5 (i := 20) rfl)
  have xNoProgramk : PySem.W.keepIn K (.ref (He.ga K "NoProgram")) = true := (all_at q5 (i := 21) rfl)
  have xNoProgramb : PySem.W.subIn K (.ref (He.ga K "NoProgram")) (.type "BaseException") = some true := of_decide_eq_true (all_at q5 (i := 22) rfl)
  have xNoProgramt : PySem.W.typeIn K (.ref (He.ga K "NoProgram")) = some (.type "type") := of_decide_eq_true (all_at q5 (i := 23) rfl)
  have xNoProgramga : PySem.W.findIn K (.ref (He.ga K "NoProgram")) "__getattribute__" = some (some (.builtin "BaseException.__getattribute__")) := He.eqO_ok (all_at q5 (i := 24) rfl)
  have xNoProgramgt : PySem.W.findIn K (.ref (He.ga K "NoProgram")) "__getattr__" = some none := He.eqO_ok (all_at q5 (i := 25) rfl)
  have xNoProgramd : PySem.W.hasDictIn K (He.ga K "NoProgram") = true := (all_at q5 (i := 26) rfl)
  have xNoProgramcl : PySem.W.findIn K (.ref (He.ga K "NoProgram")) "__class__" = some (some (.builtin "object.__class__")) := He.eqO_ok (all_at q5 (i := 27) rfl)
  have xNoProgramcn : PySem.W.specialIn K (.builtin "object.__class__") "__get__" = some (some (.builtin "getset_descriptor.__get__")) := He.eqO_ok (all_at q5 (i := 28) rfl)
  have xNoProgramct : PySem.W.takesIn K (.builtin "object.__class__") = some true := of_decide_eq_true (all_at q5 (i := 29) rfl)
  have xNoProgrammr : PySem.W.mroIn K (He.ga K "NoProgram") (.type "object") = some true := of_decide_eq_true (all_at q6 (i := 0) rfl)
  obtain ⟨cd_NoProgram, xNoProgramcs⟩ := some_at (all_at q6 (i := 1) rfl)
  have xNoneLeftg : PySem.W.nsIn K mainGlobals "NoneLeft" = some (some (.ref (He.ga K "NoneLeft"))) := He.eqO_ok (all_at q6 (i := 2) rfl)
  have xNoneLeftxi : PySem.W.excIn K (He.ga K "NoneLeft") [.type "ValueError", .type "Exception", .type "BaseException", .type "object"] "ValueError.__new__" = true := (all_at q6 (i := 3) rfl)
  have xNoneLeftk : PySem.W.keepIn K (.ref (He.ga K "NoneLeft")) = true := (all_at q6 (i := 4) rfl)
  have xNoneLeftb : PySem.W.subIn K (.ref (He.ga K "NoneLeft")) (.type "BaseException") = some true := of_decide_eq_true (all_at q6 (i := 5) rfl)
  have xNoneLeftt : PySem.W.typeIn K (.ref (He.ga K "NoneLeft")) = some (.type "type") := of_decide_eq_true (all_at q6 (i := 6) rfl)
  have xNoneLeftga : PySem.W.findIn K (.ref (He.ga K "NoneLeft")) "__getattribute__" = some (some (.builtin "BaseException.__getattribute__")) := He.eqO_ok (all_at q6 (i := 7) rfl)
  have xNoneLeftgt : PySem.W.findIn K (.ref (He.ga K "NoneLeft")) "__getattr__" = some none := He.eqO_ok (all_at q6 (i := 8) rfl)
  have xNoneLeftd : PySem.W.hasDictIn K (He.ga K "NoneLeft") = true := (all_at q6 (i := 9) rfl)
  have xNoneLeftcl : PySem.W.findIn K (.ref (He.ga K "NoneLeft")) "__class__" = some (some (.builtin "object.__class__")) := He.eqO_ok (all_at q6 (i := 10) rfl)
  have xNoneLeftcn : PySem.W.specialIn K (.builtin "object.__class__") "__get__" = some (some (.builtin "getset_descriptor.__get__")) := He.eqO_ok (all_at q6 (i := 11) rfl)
  have xNoneLeftct : PySem.W.takesIn K (.builtin "object.__class__") = some true := of_decide_eq_true (all_at q6 (i := 12) rfl)
  have xNoneLeftmr : PySem.W.mroIn K (He.ga K "NoneLeft") (.type "object") = some true := of_decide_eq_true (all_at q6 (i := 13) rfl)
  obtain ⟨cd_NoneLeft, xNoneLeftcs⟩ := some_at (all_at q6 (i := 14) rfl)
  have xRefusedg : PySem.W.nsIn K mainGlobals "Refused" = some (some (.ref (He.ga K "Refused"))) := He.eqO_ok (all_at q6 (i := 15) rfl)
  have xRefusedxi : PySem.W.excIn K (He.ga K "Refused") [.type "ValueError", .type "Exception", .type "BaseException", .type "object"] "ValueError.__new__" = true := (all_at q6 (i := 16) rfl)
  have xRefusedk : PySem.W.keepIn K (.ref (He.ga K "Refused")) = true := (all_at q6 (i := 17) rfl)
  have xRefusedb : PySem.W.subIn K (.ref (He.ga K "Refused")) (.type "BaseException") = some true := of_decide_eq_true (all_at q6 (i := 18) rfl)
  have xRefusedt : PySem.W.typeIn K (.ref (He.ga K "Refused")) = some (.type "type") := of_decide_eq_true (all_at q6 (i := 19) rfl)
  have xRefusedga : PySem.W.findIn K (.ref (He.ga K "Refused")) "__getattribute__" = some (some (.builtin "BaseException.__getattribute__")) := He.eqO_ok (all_at q6 (i := 20) rfl)
  have xRefusedgt : PySem.W.findIn K (.ref (He.ga K "Refused")) "__getattr__" = some none := He.eqO_ok (all_at q6 (i := 21) rfl)
  have xRefusedd : PySem.W.hasDictIn K (He.ga K "Refused") = true := (all_at q6 (i := 22) rfl)
  have xRefusedcl : PySem.W.findIn K (.ref (He.ga K "Refused")) "__class__" = some (some (.builtin "object.__class__")) := He.eqO_ok (all_at q6 (i := 23) rfl)
  have xRefusedcn : PySem.W.specialIn K (.builtin "object.__class__") "__get__" = some (some (.builtin "getset_descriptor.__get__")) := He.eqO_ok (all_at q6 (i := 24) rfl)
  have xRefusedct : PySem.W.takesIn K (.builtin "object.__class__") = some true := of_decide_eq_true (all_at q6 (i := 25) rfl)
  have xRefusedmr : PySem.W.mroIn K (He.ga K "Refused") (.type "object") = some true := of_decide_eq_true (all_at q6 (i := 26) rfl)
  obtain ⟨cd_Refused, xRefusedcs⟩ := some_at (all_at q6 (i := 27) rfl)
  have xNothingToUndog : PySem.W.nsIn K mainGlobals "NothingToUndo" = some (some (.ref (He.ga K "NothingToUndo"))) := He.eqO_ok (all_at q6 (i := 28) rfl)
  have xNothingToUndoxi : PySem.W.excIn K (He.ga K "NothingToUndo") [.type "ValueError", .type "Exception", .type "BaseException", .type "object"] "ValueError.__new__" = true := (all_at q6 (i := 29) rfl)
  have xNothingToUndok : PySem.W.keepIn K (.ref (He.ga K "NothingToUndo")) = true := (all_at q7 (i := 0) rfl)
  have xNothingToUndob : PySem.W.subIn K (.ref (He.ga K "NothingToUndo")) (.type "BaseException") = some true := of_decide_eq_true (all_at q7 (i := 1) rfl)
  have xNothingToUndot : PySem.W.typeIn K (.ref (He.ga K "NothingToUndo")) = some (.type "type") := of_decide_eq_true (all_at q7 (i := 2) rfl)
  have xNothingToUndoga : PySem.W.findIn K (.ref (He.ga K "NothingToUndo")) "__getattribute__" = some (some (.builtin "BaseException.__getattribute__")) := He.eqO_ok (all_at q7 (i := 3) rfl)
  have xNothingToUndogt : PySem.W.findIn K (.ref (He.ga K "NothingToUndo")) "__getattr__" = some none := He.eqO_ok (all_at q7 (i := 4) rfl)
  have xNothingToUndod : PySem.W.hasDictIn K (He.ga K "NothingToUndo") = true := (all_at q7 (i := 5) rfl)
  have xNothingToUndocl : PySem.W.findIn K (.ref (He.ga K "NothingToUndo")) "__class__" = some (some (.builtin "object.__class__")) := He.eqO_ok (all_at q7 (i := 6) rfl)
  have xNothingToUndocn : PySem.W.specialIn K (.builtin "object.__class__") "__get__" = some (some (.builtin "getset_descriptor.__get__")) := He.eqO_ok (all_at q7 (i := 7) rfl)
  have xNothingToUndoct : PySem.W.takesIn K (.builtin "object.__class__") = some true := of_decide_eq_true (all_at q7 (i := 8) rfl)
  have xNothingToUndomr : PySem.W.mroIn K (He.ga K "NothingToUndo") (.type "object") = some true := of_decide_eq_true (all_at q7 (i := 9) rfl)
  obtain ⟨cd_NothingToUndo, xNothingToUndocs⟩ := some_at (all_at q7 (i := 10) rfl)
  have xInvalidCommandg : PySem.W.nsIn K mainGlobals "InvalidCommand" = some (some (.ref (He.ga K "InvalidCommand"))) := He.eqO_ok (all_at q7 (i := 11) rfl)
  have xInvalidCommandxi : PySem.W.excIn K (He.ga K "InvalidCommand") [.type "ValueError", .type "Exception", .type "BaseException", .type "object"] "ValueError.__new__" = true := (all_at q7 (i := 12) rfl)
  have xInvalidCommandk : PySem.W.keepIn K (.ref (He.ga K "InvalidCommand")) = true := (all_at q7 (i := 13) rfl)
  have xInvalidCommandb : PySem.W.subIn K (.ref (He.ga K "InvalidCommand")) (.type "BaseException") = some true := of_decide_eq_true (all_at q7 (i := 14) rfl)
  have xInvalidCommandt : PySem.W.typeIn K (.ref (He.ga K "InvalidCommand")) = some (.type "type") := of_decide_eq_true (all_at q7 (i := 15) rfl)
  have xInvalidCommandga : PySem.W.findIn K (.ref (He.ga K "InvalidCommand")) "__getattribute__" = some (some (.builtin "BaseException.__getattribute__")) := He.eqO_ok (all_at q7 (i := 16) rfl)
  have xInvalidCommandgt : PySem.W.findIn K (.ref (He.ga K "InvalidCommand")) "__getattr__" = some none := He.eqO_ok (all_at q7 (i := 17) rfl)
  have xInvalidCommandd : PySem.W.hasDictIn K (He.ga K "InvalidCommand") = true := (all_at q7 (i := 18) rfl)
  have xInvalidCommandcl : PySem.W.findIn K (.ref (He.ga K "InvalidCommand")) "__class__" = some (some (.builtin "object.__class__")) := He.eqO_ok (all_at q7 (i := 19) rfl)
  have xInvalidCommandcn : PySem.W.specialIn K (.builtin "object.__class__") "__get__" = some (some (.builtin "getset_descriptor.__get__")) := He.eqO_ok (all_at q7 (i := 20) rfl)
  have xInvalidCommandct : PySem.W.takesIn K (.builtin "object.__class__") = some true := of_decide_eq_true (all_at q7 (i := 21) rfl)
  have xInvalidCommandmr : PySem.W.mroIn K (He.ga K "InvalidCommand") (.type "object") = some true := of_decide_eq_true (all_at q7 (i := 22) rfl)
  obtain ⟨cd_InvalidCommand, xInvalidCommandcs⟩ := some_at (all_at q7 (i := 23) rfl)
  have yNotShortg : PySem.W.nsIn K mainGlobals "NotShort" = some (some (.ref (He.ga K "NotShort"))) := He.eqO_ok (all_at q7 (i := 24) rfl)
  have yNotShortoe : oexIn K (He.ga K "NotShort") = true := (all_at q7 (i := 25) rfl)
  have yNotShortsa : PySem.W.findIn K (.ref (He.ga K "NotShort")) "__setattr__" = some (some (.builtin "object.__setattr__")) := He.eqO_ok (all_at q7 (i := 26) rfl)
  have yNotShortk : PySem.W.keepIn K (.ref (He.ga K "NotShort")) = true := (all_at q7 (i := 27) rfl)
  have yNotShortb : PySem.W.subIn K (.ref (He.ga K "NotShort")) (.type "BaseException") = some true := of_decide_eq_true (all_at q7 (i := 28) rfl)
  have yNotShortt : PySem.W.typeIn K (.ref (He.ga K "NotShort")) = some (.type "type") := of_decide_eq_true (all_at q7 (i := 29) rfl)
  have yNotShortga : PySem.W.findIn K (.ref (He.ga K "NotShort")) "__getattribute__" = some (some (.builtin "BaseException.__getattribute__")) := He.eqO_ok (all_at q8 (i := 0) rfl)
  have yNotShortgt : PySem.W.findIn K (.ref (He.ga K "NotShort")) "__getattr__" = some none := He.eqO_ok (all_at q8 (i := 1) rfl)
  have yNotShortd : PySem.W.hasDictIn K (He.ga K "NotShort") = true := (all_at q8 (i := 2) rfl)
  have yNotShortcl : PySem.W.findIn K (.ref (He.ga K "NotShort")) "__class__" = some (some (.builtin "object.__class__")) := He.eqO_ok (all_at q8 (i := 3) rfl)
  have yNotShortcn : PySem.W.specialIn K (.builtin "object.__class__") "__get__" = some (some (.builtin "getset_descriptor.__get__")) := He.eqO_ok (all_at q8 (i := 4) rfl)
  have yNotShortct : PySem.W.takesIn K (.builtin "object.__class__") = some true := of_decide_eq_true (all_at q8 (i := 5) rfl)
  have yNotShortmr : PySem.W.mroIn K (He.ga K "NotShort") (.type "object") = some true := of_decide_eq_true (all_at q8 (i := 6) rfl)
  obtain ⟨cd_NotShort, yNotShortcs⟩ := some_at (all_at q8 (i := 7) rfl)
  have yNotShortno : PySem.W.findIn K (.ref (He.ga K "NotShort")) "amount" = some none := He.eqO_ok (all_at q8 (i := 8) rfl)
  have yTooGreatg : PySem.W.nsIn K mainGlobals "TooGreat" = some (some (.ref (He.ga K "TooGreat"))) := He.eqO_ok (all_at q8 (i := 9) rfl)
  have yTooGreatoe : oexIn K (He.ga K "TooGreat") = true := (all_at q8 (i := 10) rfl)
  have yTooGreatsa : PySem.W.findIn K (.ref (He.ga K "TooGreat")) "__setattr__" = some (some (.builtin "object.__setattr__")) := He.eqO_ok (all_at q8 (i := 11) rfl)
  have yTooGreatk : PySem.W.keepIn K (.ref (He.ga K "TooGreat")) = true := (all_at q8 (i := 12) rfl)
  have yTooGreatb : PySem.W.subIn K (.ref (He.ga K "TooGreat")) (.type "BaseException") = some true := of_decide_eq_true (all_at q8 (i := 13) rfl)
  have yTooGreatt : PySem.W.typeIn K (.ref (He.ga K "TooGreat")) = some (.type "type") := of_decide_eq_true (all_at q8 (i := 14) rfl)
  have yTooGreatga : PySem.W.findIn K (.ref (He.ga K "TooGreat")) "__getattribute__" = some (some (.builtin "BaseException.__getattribute__")) := He.eqO_ok (all_at q8 (i := 15) rfl)
  have yTooGreatgt : PySem.W.findIn K (.ref (He.ga K "TooGreat")) "__getattr__" = some none := He.eqO_ok (all_at q8 (i := 16) rfl)
  have yTooGreatd : PySem.W.hasDictIn K (He.ga K "TooGreat") = true := (all_at q8 (i := 17) rfl)
  have yTooGreatcl : PySem.W.findIn K (.ref (He.ga K "TooGreat")) "__class__" = some (some (.builtin "object.__class__")) := He.eqO_ok (all_at q8 (i := 18) rfl)
  have yTooGreatcn : PySem.W.specialIn K (.builtin "object.__class__") "__get__" = some (some (.builtin "getset_descriptor.__get__")) := He.eqO_ok (all_at q8 (i := 19) rfl)
  have yTooGreatct : PySem.W.takesIn K (.builtin "object.__class__") = some true := of_decide_eq_true (all_at q8 (i := 20) rfl)
  have yTooGreatmr : PySem.W.mroIn K (He.ga K "TooGreat") (.type "object") = some true := of_decide_eq_true (all_at q8 (i := 21) rfl)
  obtain ⟨cd_TooGreat, yTooGreatcs⟩ := some_at (all_at q8 (i := 22) rfl)
  have yTooGreatno : PySem.W.findIn K (.ref (He.ga K "TooGreat")) "number" = some none := He.eqO_ok (all_at q8 (i := 23) rfl)
  have yInvalidWordsg : PySem.W.nsIn K mainGlobals "InvalidWords" = some (some (.ref (He.ga K "InvalidWords"))) := He.eqO_ok (all_at q8 (i := 24) rfl)
  have yInvalidWordsoe : oexIn K (He.ga K "InvalidWords") = true := (all_at q8 (i := 25) rfl)
  have yInvalidWordssa : PySem.W.findIn K (.ref (He.ga K "InvalidWords")) "__setattr__" = some (some (.builtin "object.__setattr__")) := He.eqO_ok (all_at q8 (i := 26) rfl)
  have yInvalidWordsk : PySem.W.keepIn K (.ref (He.ga K "InvalidWords")) = true := (all_at q8 (i := 27) rfl)
  have yInvalidWordsb : PySem.W.subIn K (.ref (He.ga K "InvalidWords")) (.type "BaseException") = some true := of_decide_eq_true (all_at q8 (i := 28) rfl)
  have yInvalidWordst : PySem.W.typeIn K (.ref (He.ga K "InvalidWords")) = some (.type "type") := of_decide_eq_true (all_at q8 (i := 29) rfl)
  have yInvalidWordsga : PySem.W.findIn K (.ref (He.ga K "InvalidWords")) "__getattribute__" = some (some (.builtin "BaseException.__getattribute__")) := He.eqO_ok (all_at q9 (i := 0) rfl)
  have yInvalidWordsgt : PySem.W.findIn K (.ref (He.ga K "InvalidWords")) "__getattr__" = some none := He.eqO_ok (all_at q9 (i := 1) rfl)
  have yInvalidWordsd : PySem.W.hasDictIn K (He.ga K "InvalidWords") = true := (all_at q9 (i := 2) rfl)
  have yInvalidWordscl : PySem.W.findIn K (.ref (He.ga K "InvalidWords")) "__class__" = some (some (.builtin "object.__class__")) := He.eqO_ok (all_at q9 (i := 3) rfl)
  have yInvalidWordscn : PySem.W.specialIn K (.builtin "object.__class__") "__get__" = some (some (.builtin "getset_descriptor.__get__")) := He.eqO_ok (all_at q9 (i := 4) rfl)
  have yInvalidWordsct : PySem.W.takesIn K (.builtin "object.__class__") = some true := of_decide_eq_true (all_at q9 (i := 5) rfl)
  have yInvalidWordsmr : PySem.W.mroIn K (He.ga K "InvalidWords") (.type "object") = some true := of_decide_eq_true (all_at q9 (i := 6) rfl)
  obtain ⟨cd_InvalidWords, yInvalidWordscs⟩ := some_at (all_at q9 (i := 7) rfl)
  have yInvalidWordsno : PySem.W.findIn K (.ref (He.ga K "InvalidWords")) "spot" = some none := He.eqO_ok (all_at q9 (i := 8) rfl)
  have yUnknownNameg : PySem.W.nsIn K mainGlobals "UnknownName" = some (some (.ref (He.ga K "UnknownName"))) := He.eqO_ok (all_at q9 (i := 9) rfl)
  have yUnknownNameoe : oexIn K (He.ga K "UnknownName") = true := (all_at q9 (i := 10) rfl)
  have yUnknownNamesa : PySem.W.findIn K (.ref (He.ga K "UnknownName")) "__setattr__" = some (some (.builtin "object.__setattr__")) := He.eqO_ok (all_at q9 (i := 11) rfl)
  have yUnknownNamek : PySem.W.keepIn K (.ref (He.ga K "UnknownName")) = true := (all_at q9 (i := 12) rfl)
  have yUnknownNameb : PySem.W.subIn K (.ref (He.ga K "UnknownName")) (.type "BaseException") = some true := of_decide_eq_true (all_at q9 (i := 13) rfl)
  have yUnknownNamet : PySem.W.typeIn K (.ref (He.ga K "UnknownName")) = some (.type "type") := of_decide_eq_true (all_at q9 (i := 14) rfl)
  have yUnknownNamega : PySem.W.findIn K (.ref (He.ga K "UnknownName")) "__getattribute__" = some (some (.builtin "BaseException.__getattribute__")) := He.eqO_ok (all_at q9 (i := 15) rfl)
  have yUnknownNamegt : PySem.W.findIn K (.ref (He.ga K "UnknownName")) "__getattr__" = some none := He.eqO_ok (all_at q9 (i := 16) rfl)
  have yUnknownNamed : PySem.W.hasDictIn K (He.ga K "UnknownName") = true := (all_at q9 (i := 17) rfl)
  have yUnknownNamecl : PySem.W.findIn K (.ref (He.ga K "UnknownName")) "__class__" = some (some (.builtin "object.__class__")) := He.eqO_ok (all_at q9 (i := 18) rfl)
  have yUnknownNamecn : PySem.W.specialIn K (.builtin "object.__class__") "__get__" = some (some (.builtin "getset_descriptor.__get__")) := He.eqO_ok (all_at q9 (i := 19) rfl)
  have yUnknownNamect : PySem.W.takesIn K (.builtin "object.__class__") = some true := of_decide_eq_true (all_at q9 (i := 20) rfl)
  have yUnknownNamemr : PySem.W.mroIn K (He.ga K "UnknownName") (.type "object") = some true := of_decide_eq_true (all_at q9 (i := 21) rfl)
  obtain ⟨cd_UnknownName, yUnknownNamecs⟩ := some_at (all_at q9 (i := 22) rfl)
  have yUnknownNameno : PySem.W.findIn K (.ref (He.ga K "UnknownName")) "name" = some none := He.eqO_ok (all_at q9 (i := 23) rfl)
  have uNotShort_AngleError : PySem.W.subIn K (.ref (He.ga K "NotShort")) (.ref (He.ga K "AngleError")) = some true := of_decide_eq_true (all_at q9 (i := 24) rfl)
  have uTooGreat_AngleError : PySem.W.subIn K (.ref (He.ga K "TooGreat")) (.ref (He.ga K "AngleError")) = some true := of_decide_eq_true (all_at q9 (i := 25) rfl)
  have uInvalidWords_AngleError : PySem.W.subIn K (.ref (He.ga K "InvalidWords")) (.ref (He.ga K "AngleError")) = some true := of_decide_eq_true (all_at q9 (i := 26) rfl)
  have uUnknownName_AngleError : PySem.W.subIn K (.ref (He.ga K "UnknownName")) (.ref (He.ga K "AngleError")) = some true := of_decide_eq_true (all_at q9 (i := 27) rfl)
  have uMat : matB K [(He.ga K "InvalidPoly"), (He.ga K "InvalidDivisor"), (He.ga K "InvalidNumber"), (He.ga K "InvalidOrder"), (He.ga K "InvalidOrders"), (He.ga K "InvalidName"), (He.ga K "InvalidProgram"), (He.ga K "InvalidCount"), (He.ga K "InvalidIndex"), (He.ga K "InvalidClaim"), (He.ga K "NotAChain"), (He.ga K "NoGreatest"), (He.ga K "NoProgram"), (He.ga K "NoneLeft"), (He.ga K "Refused"), (He.ga K "NothingToUndo"), (He.ga K "InvalidCommand"), (He.ga K "NotShort"), (He.ga K "TooGreat"), (He.ga K "InvalidWords"), (He.ga K "UnknownName")] = true := (all_at q9 (i := 28) rfl)
  have uAng : angB K (He.ga K "AngleError") [(He.ga K "InvalidPoly"), (He.ga K "InvalidDivisor"), (He.ga K "InvalidNumber"), (He.ga K "InvalidOrder"), (He.ga K "InvalidOrders"), (He.ga K "InvalidName"), (He.ga K "InvalidProgram"), (He.ga K "InvalidCount"), (He.ga K "InvalidIndex"), (He.ga K "InvalidClaim"), (He.ga K "NotAChain"), (He.ga K "NoGreatest"), (He.ga K "NoProgram"), (He.ga K "NoneLeft"), (He.ga K "Refused"), (He.ga K "NothingToUndo"), (He.ga K "InvalidCommand"), (He.ga K "NotShort"), (He.ga K "TooGreat"), (He.ga K "InvalidWords"), (He.ga K "UnknownName")] = true := (all_at q9 (i := 29) rfl)
  have uVal : valB K [(He.ga K "InvalidPoly"), (He.ga K "InvalidDivisor"), (He.ga K "InvalidNumber"), (He.ga K "InvalidOrder"), (He.ga K "InvalidOrders"), (He.ga K "InvalidName"), (He.ga K "InvalidProgram"), (He.ga K "InvalidCount"), (He.ga K "InvalidIndex"), (He.ga K "InvalidClaim"), (He.ga K "NotAChain"), (He.ga K "NoGreatest"), (He.ga K "NoProgram"), (He.ga K "NoneLeft"), (He.ga K "Refused"), (He.ga K "NothingToUndo"), (He.ga K "InvalidCommand"), (He.ga K "NotShort"), (He.ga K "TooGreat"), (He.ga K "InvalidWords"), (He.ga K "UnknownName")] = true := (all_at q10 (i := 0) rfl)
  have uAV : PySem.W.subIn K (.ref (He.ga K "AngleError")) (.type "ValueError") = some true := of_decide_eq_true (all_at q10 (i := 1) rfl)
  have a1 : PySem.W.findIn K (.ref (He.ga K "NotShort")) "__init__" = some (some (.ref (He.ma K (He.ga K "NotShort") "__init__"))) := He.eqO_ok (all_at q10 (i := 2) rfl)
  have i1 : PySem.W.isFn K (.ref (He.ma K (He.ga K "NotShort") "__init__")) = true := (all_at q10 (i := 3) rfl)
  obtain ⟨oc1, od1, sl1, kV1, dc1, pm1, an1, cd1, ct1, l1, c1⟩ := fnE_ok (dV := .none) (list_at p0 (i := 0) rfl rfl : fnE K (He.ma K (He.ga K "NotShort") "__init__") = (some ("__init__", "NotShort.__init__", (defArgs s_NotShort___init__), .stmts (defBody s_NotShort___init__), (defScope s_NotShort___init__), mainGlobals, [], builtinsNs) : He.FnW)) (all_at q10 (i := 4) rfl)
  have k1 : PySem.W.keepIn K (.ref (He.ma K (He.ga K "NotShort") "__init__")) = true := (all_at q10 (i := 5) rfl)
  have a2 : PySem.W.findIn K (.ref (He.ga K "TooGreat")) "__init__" = some (some (.ref (He.ma K (He.ga K "TooGreat") "__init__"))) := He.eqO_ok (all_at q10 (i := 6) rfl)
  have i2 : PySem.W.isFn K (.ref (He.ma K (He.ga K "TooGreat") "__init__")) = true := (all_at q10 (i := 7) rfl)
  obtain ⟨oc2, od2, sl2, kV2, dc2, pm2, an2, cd2, ct2, l2, c2⟩ := fnE_ok (dV := .none) (list_at p0 (i := 1) rfl rfl : fnE K (He.ma K (He.ga K "TooGreat") "__init__") = (some ("__init__", "TooGreat.__init__", (defArgs s_TooGreat___init__), .stmts (defBody s_TooGreat___init__), (defScope s_TooGreat___init__), mainGlobals, [], builtinsNs) : He.FnW)) (all_at q10 (i := 8) rfl)
  have k2 : PySem.W.keepIn K (.ref (He.ma K (He.ga K "TooGreat") "__init__")) = true := (all_at q10 (i := 9) rfl)
  have a3 : PySem.W.findIn K (.ref (He.ga K "InvalidWords")) "__init__" = some (some (.ref (He.ma K (He.ga K "InvalidWords") "__init__"))) := He.eqO_ok (all_at q10 (i := 10) rfl)
  have i3 : PySem.W.isFn K (.ref (He.ma K (He.ga K "InvalidWords") "__init__")) = true := (all_at q10 (i := 11) rfl)
  obtain ⟨oc3, od3, sl3, kV3, dc3, pm3, an3, cd3, ct3, l3, c3⟩ := fnE_ok (dV := .none) (list_at p0 (i := 2) rfl rfl : fnE K (He.ma K (He.ga K "InvalidWords") "__init__") = (some ("__init__", "InvalidWords.__init__", (defArgs s_InvalidWords___init__), .stmts (defBody s_InvalidWords___init__), (defScope s_InvalidWords___init__), mainGlobals, [], builtinsNs) : He.FnW)) (all_at q10 (i := 12) rfl)
  have k3 : PySem.W.keepIn K (.ref (He.ma K (He.ga K "InvalidWords") "__init__")) = true := (all_at q10 (i := 13) rfl)
  have a4 : PySem.W.findIn K (.ref (He.ga K "UnknownName")) "__init__" = some (some (.ref (He.ma K (He.ga K "UnknownName") "__init__"))) := He.eqO_ok (all_at q10 (i := 14) rfl)
  have i4 : PySem.W.isFn K (.ref (He.ma K (He.ga K "UnknownName") "__init__")) = true := (all_at q10 (i := 15) rfl)
  obtain ⟨oc4, od4, sl4, kV4, dc4, pm4, an4, cd4, ct4, l4, c4⟩ := fnE_ok (dV := .none) (list_at p0 (i := 3) rfl rfl : fnE K (He.ma K (He.ga K "UnknownName") "__init__") = (some ("__init__", "UnknownName.__init__", (defArgs s_UnknownName___init__), .stmts (defBody s_UnknownName___init__), (defScope s_UnknownName___init__), mainGlobals, [], builtinsNs) : He.FnW)) (all_at q10 (i := 16) rfl)
  have k4 : PySem.W.keepIn K (.ref (He.ma K (He.ga K "UnknownName") "__init__")) = true := (all_at q10 (i := 17) rfl)
  have a5 : PySem.W.nsIn K mainGlobals "_law_bag_of" = some (some (.ref (He.ga K "_law_bag_of"))) := He.eqO_ok (all_at q10 (i := 18) rfl)
  have k5 : PySem.W.keepIn K (.ref (He.ga K "_law_bag_of")) = true := (all_at q10 (i := 20) rfl)
  have E5 : ∃ fd : FuncData, Fun K "_law_bag_of" "_law_bag_of" s_l_bag_of (He.ga K "_law_bag_of") fd := fun_at (list_at p0 (i := 4) rfl rfl) (all_at q10 (i := 19) rfl) k5
  have a6 : PySem.W.nsIn K mainGlobals "_law_pick" = some (some (.ref (He.ga K "_law_pick"))) := He.eqO_ok (all_at q10 (i := 21) rfl)
  have k6 : PySem.W.keepIn K (.ref (He.ga K "_law_pick")) = true := (all_at q10 (i := 23) rfl)
  have E6 : ∃ fd : FuncData, Fun K "_law_pick" "_law_pick" s_l_pick (He.ga K "_law_pick") fd := fun_at (list_at p0 (i := 5) rfl rfl) (all_at q10 (i := 22) rfl) k6
  have a7 : PySem.W.nsIn K mainGlobals "_law_great_int" = some (some (.ref (He.ga K "_law_great_int"))) := He.eqO_ok (all_at q10 (i := 24) rfl)
  have k7 : PySem.W.keepIn K (.ref (He.ga K "_law_great_int")) = true := (all_at q10 (i := 26) rfl)
  have E7 : ∃ fd : FuncData, Fun K "_law_great_int" "_law_great_int" s_l_great_int (He.ga K "_law_great_int") fd := fun_at (list_at p0 (i := 6) rfl rfl) (all_at q10 (i := 25) rfl) k7
  have a8 : PySem.W.nsIn K mainGlobals "_law_some_int" = some (some (.ref (He.ga K "_law_some_int"))) := He.eqO_ok (all_at q10 (i := 27) rfl)
  have k8 : PySem.W.keepIn K (.ref (He.ga K "_law_some_int")) = true := (all_at q10 (i := 29) rfl)
  have E8 : ∃ fd : FuncData, Fun K "_law_some_int" "_law_some_int" s_l_some_int (He.ga K "_law_some_int") fd := fun_at (list_at p0 (i := 7) rfl rfl) (all_at q10 (i := 28) rfl) k8
  have a9 : PySem.W.nsIn K mainGlobals "_law_some_title" = some (some (.ref (He.ga K "_law_some_title"))) := He.eqO_ok (all_at q11 (i := 0) rfl)
  have k9 : PySem.W.keepIn K (.ref (He.ga K "_law_some_title")) = true := (all_at q11 (i := 2) rfl)
  have E9 : ∃ fd : FuncData, Fun K "_law_some_title" "_law_some_title" s_l_some_title (He.ga K "_law_some_title") fd := fun_at (list_at p0 (i := 8) rfl rfl) (all_at q11 (i := 1) rfl) k9
  have a10 : PySem.W.nsIn K mainGlobals "_law_truths" = some (some (.ref (He.ga K "_law_truths"))) := He.eqO_ok (all_at q11 (i := 3) rfl)
  have k10 : PySem.W.keepIn K (.ref (He.ga K "_law_truths")) = true := (all_at q11 (i := 5) rfl)
  have E10 : ∃ fd : FuncData, Fun K "_law_truths" "_law_truths" s_l_truths (He.ga K "_law_truths") fd := fun_at (list_at p0 (i := 9) rfl rfl) (all_at q11 (i := 4) rfl) k10
  have a11 : PySem.W.nsIn K mainGlobals "_law_objects" = some (some (.ref (He.ga K "_law_objects"))) := He.eqO_ok (all_at q11 (i := 6) rfl)
  have k11 : PySem.W.keepIn K (.ref (He.ga K "_law_objects")) = true := (all_at q11 (i := 8) rfl)
  have E11 : ∃ fd : FuncData, Fun K "_law_objects" "_law_objects" s_l_objects (He.ga K "_law_objects") fd := fun_at (list_at p0 (i := 10) rfl rfl) (all_at q11 (i := 7) rfl) k11
  have a12 : PySem.W.nsIn K mainGlobals "_law_is_int" = some (some (.ref (He.ga K "_law_is_int"))) := He.eqO_ok (all_at q11 (i := 9) rfl)
  have k12 : PySem.W.keepIn K (.ref (He.ga K "_law_is_int")) = true := (all_at q11 (i := 11) rfl)
  have E12 : ∃ fd : FuncData, Fun K "_law_is_int" "_law_is_int" s_l_is_int (He.ga K "_law_is_int") fd := fun_at (list_at p0 (i := 11) rfl rfl) (all_at q11 (i := 10) rfl) k12
  have a13 : PySem.W.nsIn K mainGlobals "_law_fields" = some (some (.ref (He.ga K "_law_fields"))) := He.eqO_ok (all_at q11 (i := 12) rfl)
  have k13 : PySem.W.keepIn K (.ref (He.ga K "_law_fields")) = true := (all_at q11 (i := 14) rfl)
  have E13 : ∃ fd : FuncData, Fun K "_law_fields" "_law_fields" s_l_fields (He.ga K "_law_fields") fd := fun_at (list_at p0 (i := 12) rfl rfl) (all_at q11 (i := 13) rfl) k13
  have a14 : PySem.W.nsIn K mainGlobals "_law_raised" = some (some (.ref (He.ga K "_law_raised"))) := He.eqO_ok (all_at q11 (i := 15) rfl)
  have k14 : PySem.W.keepIn K (.ref (He.ga K "_law_raised")) = true := (all_at q11 (i := 17) rfl)
  have E14 : ∃ fd : FuncData, Fun K "_law_raised" "_law_raised" s_l_raised (He.ga K "_law_raised") fd := fun_at (list_at p0 (i := 13) rfl rfl) (all_at q11 (i := 16) rfl) k14
  have a15 : PySem.W.nsIn K mainGlobals "law" = some (some (.ref (He.ga K "law"))) := He.eqO_ok (all_at q11 (i := 18) rfl)
  obtain ⟨oc15, od15, sl15, kV15, dc15, pm15, an15, cd15, ct15, l15, c15⟩ := fnE_ok (dV := .none) (list_at p0 (i := 14) rfl rfl : fnE K (He.ga K "law") = (some ("law", "law", (defArgs s_law), .stmts (defBody s_law), (defScope s_law), mainGlobals, [], builtinsNs) : He.FnW)) (all_at q11 (i := 19) rfl)
  have k15 : PySem.W.keepIn K (.ref (He.ga K "law")) = true := (all_at q11 (i := 20) rfl)
  have z_ValueError : PySem.W.nsIn K mainGlobals "ValueError" = some none := He.eqO_ok (all_at q11 (i := 21) rfl)
  have z_all : PySem.W.nsIn K mainGlobals "all" = some none := He.eqO_ok (all_at q11 (i := 22) rfl)
  have z_any : PySem.W.nsIn K mainGlobals "any" = some none := He.eqO_ok (all_at q11 (i := 23) rfl)
  have z_bool : PySem.W.nsIn K mainGlobals "bool" = some none := He.eqO_ok (all_at q11 (i := 24) rfl)
  have z_int : PySem.W.nsIn K mainGlobals "int" = some none := He.eqO_ok (all_at q11 (i := 25) rfl)
  have z_isinstance : PySem.W.nsIn K mainGlobals "isinstance" = some none := He.eqO_ok (all_at q11 (i := 26) rfl)
  have z_len : PySem.W.nsIn K mainGlobals "len" = some none := He.eqO_ok (all_at q11 (i := 27) rfl)
  have z_list : PySem.W.nsIn K mainGlobals "list" = some none := He.eqO_ok (all_at q11 (i := 28) rfl)
  have z_max : PySem.W.nsIn K mainGlobals "max" = some none := He.eqO_ok (all_at q11 (i := 29) rfl)
  have z_min : PySem.W.nsIn K mainGlobals "min" = some none := He.eqO_ok (all_at q12 (i := 0) rfl)
  have z_range : PySem.W.nsIn K mainGlobals "range" = some none := He.eqO_ok (all_at q12 (i := 1) rfl)
  have z_str : PySem.W.nsIn K mainGlobals "str" = some none := He.eqO_ok (all_at q12 (i := 2) rfl)
  have z_sum : PySem.W.nsIn K mainGlobals "sum" = some none := He.eqO_ok (all_at q12 (i := 3) rfl)
  have z_tuple : PySem.W.nsIn K mainGlobals "tuple" = some none := He.eqO_ok (all_at q12 (i := 4) rfl)
  exact all_mk X G hfa xAngleErrorg xAngleErrorxi xAngleErrork xAngleErrorb xAngleErrort xAngleErrorga xAngleErrorgt xAngleErrord xAngleErrorcl xAngleErrorcn xAngleErrorct xAngleErrormr xAngleErrorcs xInvalidPolyg xInvalidPolyxi xInvalidPolyk xInvalidPolyb xInvalidPolyt xInvalidPolyga xInvalidPolygt xInvalidPolyd xInvalidPolycl xInvalidPolycn xInvalidPolyct xInvalidPolymr xInvalidPolycs xInvalidDivisorg xInvalidDivisorxi xInvalidDivisork xInvalidDivisorb xInvalidDivisort xInvalidDivisorga xInvalidDivisorgt xInvalidDivisord xInvalidDivisorcl xInvalidDivisorcn xInvalidDivisorct xInvalidDivisormr xInvalidDivisorcs xInvalidNumberg xInvalidNumberxi xInvalidNumberk xInvalidNumberb xInvalidNumbert xInvalidNumberga xInvalidNumbergt xInvalidNumberd xInvalidNumbercl xInvalidNumbercn xInvalidNumberct xInvalidNumbermr xInvalidNumbercs xInvalidOrderg xInvalidOrderxi xInvalidOrderk xInvalidOrderb xInvalidOrdert xInvalidOrderga xInvalidOrdergt xInvalidOrderd xInvalidOrdercl xInvalidOrdercn xInvalidOrderct xInvalidOrdermr xInvalidOrdercs xInvalidOrdersg xInvalidOrdersxi xInvalidOrdersk xInvalidOrdersb xInvalidOrderst xInvalidOrdersga xInvalidOrdersgt xInvalidOrdersd xInvalidOrderscl xInvalidOrderscn xInvalidOrdersct xInvalidOrdersmr xInvalidOrderscs xInvalidNameg xInvalidNamexi xInvalidNamek xInvalidNameb xInvalidNamet xInvalidNamega xInvalidNamegt xInvalidNamed xInvalidNamecl xInvalidNamecn xInvalidNamect xInvalidNamemr xInvalidNamecs xInvalidProgramg xInvalidProgramxi xInvalidProgramk xInvalidProgramb xInvalidProgramt xInvalidProgramga xInvalidProgramgt xInvalidProgramd xInvalidProgramcl xInvalidProgramcn xInvalidProgramct xInvalidProgrammr xInvalidProgramcs xInvalidCountg xInvalidCountxi xInvalidCountk xInvalidCountb xInvalidCountt xInvalidCountga xInvalidCountgt xInvalidCountd xInvalidCountcl xInvalidCountcn xInvalidCountct xInvalidCountmr xInvalidCountcs xInvalidIndexg xInvalidIndexxi xInvalidIndexk xInvalidIndexb xInvalidIndext xInvalidIndexga xInvalidIndexgt xInvalidIndexd xInvalidIndexcl xInvalidIndexcn xInvalidIndexct xInvalidIndexmr xInvalidIndexcs xInvalidClaimg xInvalidClaimxi xInvalidClaimk xInvalidClaimb xInvalidClaimt xInvalidClaimga xInvalidClaimgt xInvalidClaimd xInvalidClaimcl xInvalidClaimcn xInvalidClaimct xInvalidClaimmr xInvalidClaimcs xNotAChaing xNotAChainxi xNotAChaink xNotAChainb xNotAChaint xNotAChainga xNotAChaingt xNotAChaind xNotAChaincl xNotAChaincn xNotAChainct xNotAChainmr xNotAChaincs xNoGreatestg xNoGreatestxi xNoGreatestk xNoGreatestb xNoGreatestt xNoGreatestga xNoGreatestgt xNoGreatestd xNoGreatestcl xNoGreatestcn xNoGreatestct xNoGreatestmr xNoGreatestcs xNoProgramg xNoProgramxi xNoProgramk xNoProgramb xNoProgramt xNoProgramga xNoProgramgt xNoProgramd xNoProgramcl xNoProgramcn xNoProgramct xNoProgrammr xNoProgramcs xNoneLeftg xNoneLeftxi xNoneLeftk xNoneLeftb xNoneLeftt xNoneLeftga xNoneLeftgt xNoneLeftd xNoneLeftcl xNoneLeftcn xNoneLeftct xNoneLeftmr xNoneLeftcs xRefusedg xRefusedxi xRefusedk xRefusedb xRefusedt xRefusedga xRefusedgt xRefusedd xRefusedcl xRefusedcn xRefusedct xRefusedmr xRefusedcs xNothingToUndog xNothingToUndoxi xNothingToUndok xNothingToUndob xNothingToUndot xNothingToUndoga xNothingToUndogt xNothingToUndod xNothingToUndocl xNothingToUndocn xNothingToUndoct xNothingToUndomr xNothingToUndocs xInvalidCommandg xInvalidCommandxi xInvalidCommandk xInvalidCommandb xInvalidCommandt xInvalidCommandga xInvalidCommandgt xInvalidCommandd xInvalidCommandcl xInvalidCommandcn xInvalidCommandct xInvalidCommandmr xInvalidCommandcs yNotShortg yNotShortoe yNotShortsa yNotShortk yNotShortb yNotShortt yNotShortga yNotShortgt yNotShortd yNotShortcl yNotShortcn yNotShortct yNotShortmr yNotShortcs yNotShortno yTooGreatg yTooGreatoe yTooGreatsa yTooGreatk yTooGreatb yTooGreatt yTooGreatga yTooGreatgt yTooGreatd yTooGreatcl yTooGreatcn yTooGreatct yTooGreatmr yTooGreatcs yTooGreatno yInvalidWordsg yInvalidWordsoe yInvalidWordssa yInvalidWordsk yInvalidWordsb yInvalidWordst yInvalidWordsga yInvalidWordsgt yInvalidWordsd yInvalidWordscl yInvalidWordscn yInvalidWordsct yInvalidWordsmr yInvalidWordscs yInvalidWordsno yUnknownNameg yUnknownNameoe yUnknownNamesa yUnknownNamek yUnknownNameb yUnknownNamet yUnknownNamega yUnknownNamegt yUnknownNamed yUnknownNamecl yUnknownNamecn yUnknownNamect yUnknownNamemr yUnknownNamecs yUnknownNameno uNotShort_AngleError uTooGreat_AngleError uInvalidWords_AngleError uUnknownName_AngleError uMat uAng uVal uAV a1 i1 l1 c1 k1 a2 i2 l2 c2 k2 a3 i3 l3 c3 k3 a4 i4 l4 c4 k4 a5 k5 E5 a6 k6 E6 a7 k7 E7 a8 k8 E8 a9 k9 E9 a10 k10 E10 a11 k11 E11 a12 k12 E12 a13 k13 E13 a14 k14 E14 a15 l15 c15 k15 z_ValueError z_all z_any z_bool z_int z_isinstance z_len z_list z_max z_min z_range z_str z_sum z_tuple
end
end My
open PySem PySem.W PyProof.Rows
set_option maxRecDepth 100000 in
theorem PySem.Challenge.cw_everyangle_k00_error_classes_holds : PySem.Challenge.rw_everyangle_k00_error_classes.Holds := by
  exact My.hd_law fun w K h mg fa KX G hfa c => My.hd_facts (l := PySem.Challenge.rw_everyangle_k00_error_classes) KX G hfa c
