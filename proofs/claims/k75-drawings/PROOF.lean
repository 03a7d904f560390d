import PyProof.Rows.All
import Wide.All
import OpenK.AllK
import Wide.FinOn
import KE.KStateDown
import HandS.Base
import HandS.Call
import HandS.Exc
import HandS.Defaults
import HandS.Words
import HandS.List
import HandS.Dict
import HandS.More
import HandS.Head0
import HandS.Head1
import HandS.Head2
import HandS.HeadEnd
import HandS.HeadHook1
import HandS.HeadHook2
import HandS.HeadHook3
import HandS.ForMost
import HandS.Wide
import HandS.WideMore
import HandS.Flow
import HandS.IsInst
import HandS.Text
import Lean
import HandS.TupAny
import PyProof.StrOps2
import HandS.Rev
import HandS.Style
import KE.KRevSl
import HandS.SetKeys
import HandS.SortInts
import HandS.Set
import HandS.SetFor
import HandS.Strs
import PyProof.Rows.SortShellAny
import KE.KOpsOwn
import HandS.Property
import HandS.SlotsOwn
import HandS.MakeKw
import HandS.ExcValue
import HandS.ExcIs
import HandS.ExcOwn
import HandS.WordsExc
import KE.KOwnIter
import KE.KDictIter
import HandS.IterNext
import PyProof.TwoTypes
import PyProof.FactsAll.int_1
import PyProof.FactsAll.int_3
import PyProof.FactsAll.int_5
import HandS.ListItems
import HandS.Walk
import HandS.DictComp
import KE.DatumOrd
import KE.DataMinMax
import HandS.SortKw
import HandS.Records
import HandS.Small
import HandS.DeepEq
import HandS.Conv
import HandS.Iter
import HandS.WideBits
import PySem.Challenge.RW_everyangle_k75_drawings
set_option Elab.async false
set_option linter.all false
set_option maxRecDepth 100000
set_option maxHeartbeats 4000000
/-! The head's facts by one kernel run: what is looked at, and what each look says. -/
namespace My
open PySem PySem.Spec PyProof.Rows L2
theorem all_at {l : List Bool} (h : l.all id = true) {i : Nat} {b : Bool} (e : l[i]? = some b) : b = true := List.all_eq_true.mp h b (List.mem_of_getElem? e)
theorem list_at {α : Type} {l m : List α} (e : l = m) {i : Nat} {a b : α} (h1 : l[i]? = some a) (h2 : m[i]? = some b) : a = b := by
  subst e
  rw [h1] at h2
  exact Option.some.inj h2
theorem some_at {α : Type} {o : Option α} (h : o.isSome = true) : ∃ x, o = some x := Option.isSome_iff_exists.mp h
def clsC (o : Option ClassData) (m : List Value) : Bool := match o with
  | some cd => decide (cd.mro = m)
  | none => false
theorem clsC_ok {o : Option ClassData} {m : List Value} (h : clsC o m = true) : ∃ cd, o = some cd ∧ cd.mro = m := by
  unfold clsC at h
  split at h
  · exact ⟨_, rfl, of_decide_eq_true h⟩
  · cases h
section
variable {K : PySem.W.Frag}
def fnE (K : PySem.W.Frag) (f : Addr) : He.FnW := match K.lookup f with
  | some ⟨_, _, .func fd, _⟩ => some (fd.name, fd.qualname, fd.params, fd.body, fd.scope, fd.globals, fd.closure, fd.builtins)
  | _ => none
def fnC (K : PySem.W.Frag) (f : Addr) (q : Str) (dV : Value) : Bool := match K.lookup f with
  | some ⟨_, _, .func fd, _⟩ => PySem.W.codeIn K fd.code q && decide (fd.defaults = dV)
  | _ => false
theorem fnE_ok {f : Addr} {x q : Str} {ps : Arguments} {body : List Stmt} {sc : Scope} {dV : Value} (e : fnE K f = some (x, q, ps, .stmts body, sc, mainGlobals, [], builtinsNs)) (c : fnC K f q dV = true) :
    ∃ oc od osl kV doc pm an cdv ct, K.lookup f = some ⟨oc, od, .func (PySem.W.fnOf x q ps body sc dV kV doc pm an cdv ct), osl⟩ ∧ PySem.W.codeIn K cdv q = true := by
  unfold fnC at c
  unfold fnE at e
  cases l : K.lookup f with
  | none =>
    rw [l] at c
    cases c
  | some o =>
    obtain ⟨oc, od, dt, osl⟩ := o
    rw [l] at c e
    cases dt with
    | func fd =>
      obtain ⟨n1, n2, n3, n4, n5, n6, n7, n8, n9, n10, n11, n12, n13, n14, n15⟩ := fd
      have e2 : (some (n1, n2, n3, n4, n5, n6, n7, n15) : He.FnW) = some (x, q, ps, .stmts body, sc, mainGlobals, [], builtinsNs) := e
      simp only [Option.some.injEq, Prod.mk.injEq] at e2
      obtain ⟨h1, h2, h3, h4, h5, h6, h7, h8⟩ := e2
      subst h1 h2 h3 h4 h5 h6 h7 h8
      have c3 : (PySem.W.codeIn K n13 n2 && decide (n8 = dV)) = true := c
      obtain ⟨k1, k2⟩ := He.ba c3
      have k3 := of_decide_eq_true k2
      subst k3
      exact ⟨oc, od, osl, n9, n10, n11, n12, n13, n14, rfl, k1⟩
    | _ => cases c
theorem fun_at {f : Addr} {x q : Str} {st : Stmt} (e : fnE K f = some (x, q, defArgs st, .stmts (defBody st), defScope st, mainGlobals, [], builtinsNs)) (c : fnC K f q .none = true) (k : PySem.W.keepIn K (.ref f) = true) : ∃ fd : FuncData, Fun K x q st f fd := by
  obtain ⟨oc, od, osl, kV, doc, pm, an, cdv, ct, l, h⟩ := fnE_ok e c
  exact ⟨_, ⟨oc, od, kV, doc, pm, an, cdv, ct, osl, rfl, l, h⟩, k⟩
def prF (K : PySem.W.Frag) (p : Addr) : Addr := match PySem.W.recIn K p "property" with
  | some (.ref f :: _) => f
  | _ => 0
def prR (K : PySem.W.Frag) (p : Addr) : List Value := match PySem.W.recIn K p "property" with
  | some (.ref _ :: r) => r
  | _ => []
def prC (K : PySem.W.Frag) (p : Addr) : Bool := match PySem.W.recIn K p "property" with
  | some (.ref _ :: _) => true
  | _ => false
theorem prC_ok {p : Addr} (h : prC K p = true) : PySem.W.recIn K p "property" = some (.ref (prF K p) :: prR K p) := by
  unfold prC at h
  unfold prF prR
  cases e : PySem.W.recIn K p "property" with
  | none =>
    rw [e] at h
    cases h
  | some l =>
    rw [e] at h
    cases l with
    | nil => cases h
    | cons v r =>
      cases v with
      | ref f => rfl
      | _ => cases h
end
/-- what the module's names reach in n steps, level by level (with doublets) -/
def hdLv (g : Addr → Option Obj) : Nat → List Addr → List Addr
  | 0, as => as
  | n + 1, as => as ++ hdLv g n (as.flatMap fun a => match g a with
    | some o => He.refsD o
    | none => [])
/-- a fact of every world: at each answer of the one row of the world that the top asks -/
theorem by_row {P : World → Prop} (hf : ∀ w : World, P (w.withFollow "special-get-raises" false)) (ht : ∀ w : World, P (w.withFollow "special-get-raises" true)) (w : World) : P w := PySem.W.byRow2 "special-get-raises" hf ht w
end My

set_option Elab.async false
set_option linter.all false
set_option maxRecDepth 100000
namespace My
open PySem PySem.Spec PyProof.Rows L2

/-! ### a def of the text, by its name -/
structure Has (P : Program) (w : World) (K : PySem.W.Frag) (mg : Str → Option Value) (base : Heap) (x : Str) (k : Nat) (ps : List Str) (sp : Sp) : Prop where
  ex : ∃ f fd, FnOk P w K mg base CX0 k f fd ps sp ∧ mg x = some (.ref f) ∧ PySem.W.keepIn K (.ref f) = true ∧ Binds K fd ps []
theorem Has.mono {P : Program} {w : World} {K : PySem.W.Frag} {mg : Str → Option Value} {base : Heap} {x : Str} {j k : Nat} {ps : List Str} {sp : Sp} (h : Has P w K mg base x j ps sp) (hk : j ≤ k) : Has P w K mg base x k ps sp := by
  obtain ⟨f, fd, F, a, b, c⟩ := h.ex
  exact ⟨f, fd, F.mono hk, a, b, c⟩
section
variable {X : Cx} {k : Nat} {ps : List Str} {sp : Sp} {x : Str} {p pos : Pos} {e : Expr} {es : List Expr} {t : TA}
theorem pe_callH (h : Has X.prog X.w X.K X.mg X.base x k ps sp) (hr : Room k X.A) (ha : PA X (e :: es) t) (hg : Gl X x := by rfl) (hdb : (x == ("__debug__" : Str)) = false := by decide)
   (hs : starEach (e :: es) X.env = (false, eval e X.env) :: starEach es X.env := by rfl) (hplain : (backTo pos (starEach es X.env)).any (·.1) = false := by rfl) :
   PE X (.Call (.Name x p) (e :: es) [] pos) (tCall sp [] E0 t) := by
  obtain ⟨f, fd, F, a, b, c⟩ := h.ex
  exact pe_call F hr hg a b c .nil pass0 ha hdb hs hplain
end
/-- xs[i] read by values, for o[i] op= e -/
theorem pg_list {X : Cx} : PGet X (rIxL X.K) := by
  intro pins s σ H x y v u Q I rx ry h
  obtain ⟨p, xs, i, z, rfl, rfl, hq, he, q⟩ := h
  cases rx
  obtain ⟨t, rfl⟩ := ry
  obtain ⟨its, r, pl, hz⟩ := I.list hq
  obtain ⟨j, h1, h2, h3, h4, h5⟩ := atI_get he
  obtain ⟨w, ew, rw'⟩ := r.get h2
  have hl := r.length
  have hn := line63
  have fin : EP X pins σ Q w s := ⟨z, H, I, rw', q⟩
  by_cases h0 : 0 ≤ i
  · have hj : i.toNat = j := by
      rw [seqIndex_of h0 h5] at h1
      exact Option.some.inj h1
    exact wpAny_getItem_list pl.isList h0 (by omega) (by rw [hj]; simpa using ew) fin
  · have hj : (i + (its.toArray.size : Int)).toNat = j := by
      rw [seqIndex_neg (by omega) h4] at h1
      rw [List.size_toArray, ← hl]
      exact Option.some.inj h1
    exact wpAny_getItem_list_neg pl.isList (by omega) (by rw [List.size_toArray] <;> omega) (by omega) (by rw [hj]; simpa using ew) fin
/-- int(n) of an int, of a truth -/
theorem call_intI {X : Cx} : CallR X (.type "int") (fun xs H Q => ∃ i, xs = [.int i] ∧ Q (.int i) H) := fun pins s σ H xs us Q I r h => call_int1 pins s σ H xs us Q I r (.inl h)
theorem call_intB {X : Cx} : CallR X (.type "int") (fun xs H Q => ∃ k, xs = [.bl k] ∧ Q (.int (if k then 1 else 0)) H) := fun pins s σ H xs us Q I r h => call_int1 pins s σ H xs us Q I r (.inr h)

/-! ### readings, one step at a time -/
section
variable {σ : L2.St} {H : Hp} {Q : VK} {i j : Nat} {v x y : V} {ta tb tc te ti to : TE} {K : PySem.W.Frag}
theorem r_var (e : σ[i]? = some (some v)) (q : Q v H) : tVar i σ H Q := ⟨v, e, q⟩
theorem r_c (q : Q v H) : tC v σ H Q := q
theorem r_op {r : R2} (q : ta σ H fun x H1 => tb σ H1 fun y H2 => r x y H2 Q) : tOp r ta tb σ H Q := q
theorem r_un {r : V → Hp → VK → Prop} (q : ta σ H fun x H1 => r x H1 Q) : tUn r ta σ H Q := q
theorem r_rI {C : Int → Int → Prop} {g : Int → Int → V} {a b : Int} (c : C a b) (q : Q (g a b) H) : rI C g (.int a) (.int b) H Q := ⟨a, b, rfl, rfl, c, q⟩
theorem r_rI0 {g : Int → Int → V} {a b : Int} (q : Q (g a b) H) : rI0 g (.int a) (.int b) H Q := ⟨a, b, rfl, rfl, q⟩
theorem r_rU {g : Int → V} {a : Int} (q : Q (g a) H) : rU g (.int a) H Q := ⟨a, rfl, q⟩
theorem r_eq (s : scal x y = true) (q : Q (.bl (decide (x = y))) H) : rEq x y H Q := ⟨s, q⟩
theorem r_ne (s : scal x y = true) (q : Q (.bl (!decide (x = y))) H) : rNe x y H Q := ⟨s, q⟩
theorem dec_int {a b : Int} : decide (V.int a = V.int b) = decide (a = b) := by
  by_cases h : a = b
  · rw [h]; simp
  · rw [decide_eq_false h, decide_eq_false (fun e => h (V.int.inj e))]
theorem dec_bl {a b : Bool} : decide (V.bl a = V.bl b) = decide (a = b) := by
  by_cases h : a = b
  · rw [h]; simp
  · rw [decide_eq_false h, decide_eq_false (fun e => h (V.bl.inj e))]
theorem dec_str {a b : Str} : decide (V.str a = V.str b) = decide (a = b) := by
  by_cases h : a = b
  · rw [h]; simp
  · rw [decide_eq_false h, decide_eq_false (fun e => h (V.str.inj e))]
theorem r_eqI {a b : Int} (q : Q (.bl (decide (a = b))) H) : rEq (.int a) (.int b) H Q := ⟨rfl, by rw [dec_int]; exact q⟩
theorem r_neI {a b : Int} (q : Q (.bl (!decide (a = b))) H) : rNe (.int a) (.int b) H Q := ⟨rfl, by rw [dec_int]; exact q⟩
theorem r_eqB {a b : Bool} (q : Q (.bl (decide (a = b))) H) : rEq (.bl a) (.bl b) H Q := ⟨rfl, by rw [dec_bl]; exact q⟩
theorem r_neB {a b : Bool} (q : Q (.bl (!decide (a = b))) H) : rNe (.bl a) (.bl b) H Q := ⟨rfl, by rw [dec_bl]; exact q⟩
theorem r_eqS {a b : Str} (q : Q (.bl (decide (a = b))) H) : rEq (.str a) (.str b) H Q := ⟨rfl, by rw [dec_str]; exact q⟩
theorem r_neS {a b : Str} (q : Q (.bl (!decide (a = b))) H) : rNe (.str a) (.str b) H Q := ⟨rfl, by rw [dec_str]; exact q⟩
theorem r_ixL {p : Addr} {xs : List V} {n : Int} (h : SqL K H p xs) (e : atI xs n = some v) (q : Q v H) : rIxL K (.ref p) (.int n) H Q := ⟨p, xs, n, v, rfl, rfl, h, e, q⟩
theorem r_ixT {p : Addr} {xs : List V} {n : Int} (h : SqT K H p xs) (e : atI xs n = some v) (q : Q v H) : rIxT K (.ref p) (.int n) H Q := ⟨p, xs, n, v, rfl, rfl, h, e, q⟩
theorem r_cb {r : List V → Hp → VK → Prop} {t : TA} (q : t σ H fun vs H1 => r vs H1 Q) : tCB r t σ H Q := q
theorem r_call {sp : Sp} {E : XK} {t : TA} (q : t σ H fun vs H1 => sp vs H1 Q E) : tCall sp [] E t σ H Q := by
  unfold tCall
  simpa only [List.append_nil] using q
theorem r_cons {t : TA} {R : List V → Hp → Prop} (q : te σ H fun x H1 => t σ H1 fun xs H2 => R (x :: xs) H2) : tCons te t σ H R := q
theorem r_nil {R : List V → Hp → Prop} (q : R [] H) : tNil σ H R := q
theorem r_lst {t : TA} (q : t σ H fun xs H1 => xs.length ≤ sizeLine ∧ ∀ p, H1 p = none → Q (.ref p) (upd H1 p (.lst xs))) : tLst t σ H Q := q
theorem r_tup {t : TA} (q : t σ H fun xs H1 => xs.length ≤ sizeLine ∧ ∀ p, H1 p = none → Q (.ref p) (upd H1 p (.tup xs))) : tTup t σ H Q := q
theorem small_of {n : Nat} (h : n ≤ 100000) : n ≤ sizeLine := Nat.le_trans h (by decide)
theorem r_new {A : Prop} {n : Nat} (h : n ≤ 100000) (q : A) : n ≤ sizeLine ∧ A := ⟨small_of h, q⟩
theorem r_exbl {b : Bool} {R : Bool → Prop} (q : R b) : ∃ k, V.bl b = V.bl k ∧ R k := ⟨b, rfl, q⟩
theorem r_exint {n : Int} {R : Int → Prop} (q : R n) : ∃ k, [V.int n] = [V.int k] ∧ R k := ⟨n, rfl, q⟩
theorem r_exint2 {n m : Int} {R : Int → Int → Prop} (q : R n m) : ∃ k l, [V.int n, V.int m] = [V.int k, V.int l] ∧ R k l := ⟨n, m, rfl, q⟩
theorem r_exblL {b : Bool} {R : Bool → Prop} (q : R b) : ∃ k, [V.bl b] = [V.bl k] ∧ R k := ⟨b, rfl, q⟩
theorem r_test {t : TE} {R : Bool → Hp → Prop} (q : t σ H fun x H' => ∃ k, x = .bl k ∧ R k H') : tTest t σ H R := q
theorem r_tB {t : TE} {R : Bool → Hp → Prop} (q : t σ H fun x H' => ∃ k, x = .bl k ∧ R k H') : tB t σ H R := q
theorem r_not {t : TT} {R : Bool → Hp → Prop} (q : t σ H fun c H1 => R (!c) H1) : tNot t σ H R := q
theorem r_and {t u : TT} {R : Bool → Hp → Prop} (q : t σ H fun c H1 => if c = true then u σ H1 R else R false H1) : tAnd t u σ H R := q
theorem r_or {t u : TT} {R : Bool → Hp → Prop} (q : t σ H fun c H1 => if c = true then R true H1 else u σ H1 R) : tOr t u σ H R := q
theorem r_andV (q : ta σ H fun x H1 => ∃ c, x = .bl c ∧ if c = true then tb σ H1 Q else Q (.bl false) H1) : tAndV ta tb σ H Q := q
theorem r_orV (q : ta σ H fun x H1 => ∃ c, x = .bl c ∧ if c = true then Q (.bl true) H1 else tb σ H1 Q) : tOrV ta tb σ H Q := q
theorem r_notV (q : ta σ H fun x H1 => ∃ c, x = .bl c ∧ Q (.bl (!c)) H1) : tNotV ta σ H Q := q
theorem r_tif {t : TT} (q : t σ H fun c H1 => if c = true then ta σ H1 Q else tb σ H1 Q) : tIf t ta tb σ H Q := q
theorem r_iteT {A B : Prop} (q : A) : if true = true then A else B := by rw [if_pos rfl]; exact q
theorem r_iteF {A B : Prop} (q : B) : if false = true then A else B := by rw [if_neg Bool.false_ne_true]; exact q
theorem r_ite {b : Bool} {A B : Prop} (q : b = true → A) (q' : b = false → B) : if b = true then A else B := by
  cases b with
  | true => rw [if_pos rfl]; exact q rfl
  | false => rw [if_neg Bool.false_ne_true]; exact q' rfl
theorem r_iteD {c A B : Prop} [Decidable c] (q : c → A) (q' : ¬ c → B) : if decide c = true then A else B := by
  by_cases h : c
  · rw [if_pos (decide_eq_true h)]; exact q h
  · rw [if_neg (by simpa using h)]; exact q' h
theorem r_iteN {c A B : Prop} [Decidable c] (q : ¬ c → A) (q' : c → B) : if (!decide c) = true then A else B := by
  by_cases h : c
  · rw [if_neg (by simpa using h)]; exact q' h
  · rw [if_pos (by simpa using h)]; exact q h
theorem r_iteNT {A B : Prop} (q : B) : if (!true) = true then A else B := r_iteF q
theorem r_iteNF {A B : Prop} (q : A) : if (!false) = true then A else B := r_iteT q
theorem r_iteDT {c A B : Prop} [Decidable c] (h : c) (q : A) : if decide c = true then A else B := by rw [if_pos (decide_eq_true h)]; exact q
theorem r_iteDF {c A B : Prop} [Decidable c] (h : ¬ c) (q : B) : if decide c = true then A else B := by rw [if_neg (by simpa using h)]; exact q
theorem r_iteNDT {c A B : Prop} [Decidable c] (h : ¬ c) (q : A) : if (!decide c) = true then A else B := by rw [if_pos (by simpa using h)]; exact q
theorem r_iteNDF {c A B : Prop} [Decidable c] (h : c) (q : B) : if (!decide c) = true then A else B := by rw [if_neg (by simpa using h)]; exact q
/-- a statement, then the rest, with a word between them -/
def tCutM (t u : TS) : TS := fun D σ H => ∃ Mid : L2.St → Hp → Prop, t { D with nx := Mid } σ H ∧ ∀ σ' H', Mid σ' H' → u D σ' H'
theorem pss_cutM {X : Cx} {st : Stmt} {rest : List Stmt} {t u : TS} (h1 : PS X st t) (h2 : PSs X rest u) : PSs X (st :: rest) (tCutM t u) := by
  refine ⟨fun pins s σ H D I h => ?_⟩
  obtain ⟨Mid, hm, hu⟩ := h
  refine wpAny_execs_cons (thn (h1.run pins s σ H { D with nx := Mid } I hm) fun f s1 q => ?_)
  cases f with
  | next =>
    obtain ⟨σ', H', I', q⟩ := q
    exact h2.run pins s1 σ' H' D I' (hu σ' H' q)
  | ret v => exact q
  | brk => exact q
  | cont => exact q
variable {D : Ends} {t u : TS} {g : TG} {c : TT}
theorem r_cut (Mid : L2.St → Hp → Prop) (h : t { D with nx := Mid } σ H) (q : ∀ σ' H', Mid σ' H' → u D σ' H') : tCutM t u D σ H := ⟨Mid, h, q⟩
theorem r_seq (q : t { D with nx := u D } σ H) : tSeq t u D σ H := q
theorem r_next (q : D.nx σ H) : tNext D σ H := q
theorem r_brk (q : D.bk σ H) : tBreak D σ H := q
theorem r_cont (q : D.ct σ H) : tCont D σ H := q
theorem r_asg (q : te σ H fun x H1 => g x σ H1 D.nx) : tAsg te g D σ H := q
theorem r_gname {R : L2.St → Hp → Prop} (q : R (σ.set i (some v)) H) : gName i v σ H R := q
theorem r_ret (q : te σ H D.rt) : tRet te D σ H := q
theorem r_retN (q : D.rt .non H) : tRetN D σ H := q
theorem r_drop (q : te σ H fun _ H1 => D.nx σ H1) : tDrop te D σ H := q
theorem r_if (q : c σ H fun b H1 => if b = true then t D σ H1 else u D σ H1) : tIfS c t u D σ H := q
theorem r_aug {ip : TIp} (e : σ[i]? = some (some x)) (q : te σ H fun y H1 => ip x y H1 fun z H2 => D.nx (σ.set i (some z)) H2) : tAug i te ip D σ H := ⟨x, e, q⟩
theorem r_ipI {f : Int → Int → Int} {a b : Int} (q : Q (.int (f a b)) H) : ipI f (.int a) (.int b) H Q := ⟨a, b, rfl, rfl, q⟩
theorem r_augS {gt : V → V → Hp → VK → Prop} {ip : TIp} {st : TSet} (q : to σ H fun o H1 => ti σ H1 fun i H2 => gt o i H2 fun x H3 => te σ H3 fun y H4 => ip x y H4 fun z H5 => st o i z H5 fun H6 => D.nx σ H6) : tAugS to ti te gt ip st D σ H := q
theorem r_gsub {st : TSet} {R : L2.St → Hp → Prop} (q : to σ H fun o H1 => ti σ H1 fun i H2 => st o i v H2 fun H3 => R σ H3) : gSub to ti st v σ H R := q
theorem r_setL {p : Addr} {xs : List V} {n : Int} {m : Nat} {R : Hp → Prop} (h : H p = some (.lst xs)) (e : ixN xs.length n = some m) (q : R (upd H p (.lst (xs.set m v)))) : rSetL (.ref p) (.int n) v H R := ⟨p, xs, n, m, rfl, rfl, h, e, q⟩
theorem r_par {i j : Nat} {tas : TA} (q : tas σ H fun vs H1 => ∃ v w, vs = [v, w] ∧ D.nx ((σ.set i (some v)).set j (some w)) H1) : tPar i j tas D σ H := q
theorem r_ex2 {v w : V} {R : V → V → Prop} (q : R v w) : ∃ a b, [v, w] = [a, b] ∧ R a b := ⟨v, w, rfl, q⟩
theorem r_bm {T : String} {r : V → List V → Hp → VK → Prop} {tas : TA} (q : to σ H fun x H1 => tyV K T x H1 ∧ tas σ H1 fun xs H2 => r x xs H2 Q) : tBM K T r to tas σ H Q := q
theorem r_tyL {p : Addr} {xs : List V} {A : Prop} (h : H p = some (.lst xs)) (q : A) : tyV K "list" (.ref p) H ∧ A := ⟨.inl ⟨rfl, _, .inl (.inl h)⟩, q⟩
theorem r_append {p : Addr} {xs : List V} (h : H p = some (.lst xs)) (hl : xs.length < 100000) (q : Q .non (upd H p (.lst (xs ++ [v])))) : rAppend (.ref p) [v] H Q := ⟨p, xs, v, rfl, rfl, h, Nat.lt_of_lt_of_le hl (by decide), q⟩
end

/-- f(k = v, ..): all by name, in the parameters' order -/
def gK (us ws : List Value) : List Value := match us with | [] => ws | _ :: _ => []
def gKV (us ws : List V) : List V := match us with | [] => ws | _ :: _ => []
structure HasK (P : Program) (w : World) (K : PySem.W.Frag) (mg : Str → Option Value) (base : Heap) (x : Str) (k : Nat) (ps : List Str) (sp : Sp) : Prop where
  ex : ∃ f fd, FnOk P w K mg base CX0 k f fd ps sp ∧ mg x = some (.ref f) ∧ PySem.W.keepIn K (.ref f) = true ∧ Binds K fd ps [] ∧ KBinds K fd ps ps gK gKV
theorem HasK.has {P : Program} {w : World} {K : PySem.W.Frag} {mg : Str → Option Value} {base : Heap} {x : Str} {k : Nat} {ps : List Str} {sp : Sp} (h : HasK P w K mg base x k ps sp) : Has P w K mg base x k ps sp := by
  obtain ⟨f, fd, F, a, b, c, _⟩ := h.ex
  exact ⟨f, fd, F, a, b, c⟩
/-! ### isinstance -/
section
variable {H : Hp} {Q : VK} {K : PySem.W.Frag} {x : V}
theorem r_isi {a b : String} {r : Bool} (ty : TyX K H x (.type a)) (k : kitB a b = some r) (q : Q (.bl r) H) : rIsi K [x, .ty b] H Q := ⟨x, .ty b, _, _, r, rfl, .ty b, ty, kit_ty k, q⟩
theorem ty_int {i : Int} : TyX K H (.int i) (.type "int") := .base (.int i)
theorem ty_bl {i : Bool} : TyX K H (.bl i) (.type "bool") := .base (.bl i)
theorem ty_str {i : Str} : TyX K H (.str i) (.type "str") := .base (.str i)
theorem ty_lst {p : Addr} {xs : List V} (h : H p = some (.lst xs)) : TyX K H (.ref p) (.type "list") := .base (.lst h)
theorem ty_tup {p : Addr} {xs : List V} (h : H p = some (.tup xs)) : TyX K H (.ref p) (.type "tuple") := .base (.tup h)
end
section
variable {H : Hp} {Q : VK} {K : PySem.W.Frag}
theorem r_is_int_int {i : Int} (q : Q (.bl true) H) : rIsi K [.int i, .ty "int"] H Q := r_isi ty_int (by decide +kernel) q
theorem r_is_int_bool {i : Int} (q : Q (.bl false) H) : rIsi K [.int i, .ty "bool"] H Q := r_isi ty_int (by decide +kernel) q
theorem r_is_int_str {i : Int} (q : Q (.bl false) H) : rIsi K [.int i, .ty "str"] H Q := r_isi ty_int (by decide +kernel) q
theorem r_is_int_list {i : Int} (q : Q (.bl false) H) : rIsi K [.int i, .ty "list"] H Q := r_isi ty_int (by decide +kernel) q
theorem r_is_int_tuple {i : Int} (q : Q (.bl false) H) : rIsi K [.int i, .ty "tuple"] H Q := r_isi ty_int (by decide +kernel) q
theorem r_is_bool_int {i : Bool} (q : Q (.bl true) H) : rIsi K [.bl i, .ty "int"] H Q := r_isi ty_bl (by decide +kernel) q
theorem r_is_bool_bool {i : Bool} (q : Q (.bl true) H) : rIsi K [.bl i, .ty "bool"] H Q := r_isi ty_bl (by decide +kernel) q
theorem r_is_bool_str {i : Bool} (q : Q (.bl false) H) : rIsi K [.bl i, .ty "str"] H Q := r_isi ty_bl (by decide +kernel) q
theorem r_is_bool_list {i : Bool} (q : Q (.bl false) H) : rIsi K [.bl i, .ty "list"] H Q := r_isi ty_bl (by decide +kernel) q
theorem r_is_bool_tuple {i : Bool} (q : Q (.bl false) H) : rIsi K [.bl i, .ty "tuple"] H Q := r_isi ty_bl (by decide +kernel) q
theorem r_is_str_int {i : Str} (q : Q (.bl false) H) : rIsi K [.str i, .ty "int"] H Q := r_isi ty_str (by decide +kernel) q
theorem r_is_str_bool {i : Str} (q : Q (.bl false) H) : rIsi K [.str i, .ty "bool"] H Q := r_isi ty_str (by decide +kernel) q
theorem r_is_str_str {i : Str} (q : Q (.bl true) H) : rIsi K [.str i, .ty "str"] H Q := r_isi ty_str (by decide +kernel) q
theorem r_is_str_list {i : Str} (q : Q (.bl false) H) : rIsi K [.str i, .ty "list"] H Q := r_isi ty_str (by decide +kernel) q
theorem r_is_str_tuple {i : Str} (q : Q (.bl false) H) : rIsi K [.str i, .ty "tuple"] H Q := r_isi ty_str (by decide +kernel) q
theorem r_is_list_int {p : Addr} {xs : List V}  (h : H p = some (.lst xs)) (q : Q (.bl false) H) : rIsi K [.ref p, .ty "int"] H Q := r_isi (ty_lst h) (by decide +kernel) q
theorem r_is_list_bool {p : Addr} {xs : List V}  (h : H p = some (.lst xs)) (q : Q (.bl false) H) : rIsi K [.ref p, .ty "bool"] H Q := r_isi (ty_lst h) (by decide +kernel) q
theorem r_is_list_str {p : Addr} {xs : List V}  (h : H p = some (.lst xs)) (q : Q (.bl false) H) : rIsi K [.ref p, .ty "str"] H Q := r_isi (ty_lst h) (by decide +kernel) q
theorem r_is_list_list {p : Addr} {xs : List V}  (h : H p = some (.lst xs)) (q : Q (.bl true) H) : rIsi K [.ref p, .ty "list"] H Q := r_isi (ty_lst h) (by decide +kernel) q
theorem r_is_list_tuple {p : Addr} {xs : List V}  (h : H p = some (.lst xs)) (q : Q (.bl false) H) : rIsi K [.ref p, .ty "tuple"] H Q := r_isi (ty_lst h) (by decide +kernel) q
theorem r_is_tuple_int {p : Addr} {xs : List V}  (h : H p = some (.tup xs)) (q : Q (.bl false) H) : rIsi K [.ref p, .ty "int"] H Q := r_isi (ty_tup h) (by decide +kernel) q
theorem r_is_tuple_bool {p : Addr} {xs : List V}  (h : H p = some (.tup xs)) (q : Q (.bl false) H) : rIsi K [.ref p, .ty "bool"] H Q := r_isi (ty_tup h) (by decide +kernel) q
theorem r_is_tuple_str {p : Addr} {xs : List V}  (h : H p = some (.tup xs)) (q : Q (.bl false) H) : rIsi K [.ref p, .ty "str"] H Q := r_isi (ty_tup h) (by decide +kernel) q
theorem r_is_tuple_list {p : Addr} {xs : List V}  (h : H p = some (.tup xs)) (q : Q (.bl false) H) : rIsi K [.ref p, .ty "list"] H Q := r_isi (ty_tup h) (by decide +kernel) q
theorem r_is_tuple_tuple {p : Addr} {xs : List V}  (h : H p = some (.tup xs)) (q : Q (.bl true) H) : rIsi K [.ref p, .ty "tuple"] H Q := r_isi (ty_tup h) (by decide +kernel) q
theorem r_is_NoneType_int  (q : Q (.bl false) H) : rIsi K [.non, .ty "int"] H Q := r_isi (.base .non) (by decide +kernel) q
theorem r_is_NoneType_bool  (q : Q (.bl false) H) : rIsi K [.non, .ty "bool"] H Q := r_isi (.base .non) (by decide +kernel) q
theorem r_is_NoneType_str  (q : Q (.bl false) H) : rIsi K [.non, .ty "str"] H Q := r_isi (.base .non) (by decide +kernel) q
theorem r_is_NoneType_list  (q : Q (.bl false) H) : rIsi K [.non, .ty "list"] H Q := r_isi (.base .non) (by decide +kernel) q
theorem r_is_NoneType_tuple  (q : Q (.bl false) H) : rIsi K [.non, .ty "tuple"] H Q := r_isi (.base .non) (by decide +kernel) q
end
/-! ### slices, sums of lists, len -/
section
variable {σ : L2.St} {H : Hp} {Q : VK} {K : PySem.W.Frag} {te : TE} {p b : Addr} {xs zs : List V}
theorem r_sl {r : V → Option Int → Option Int → Hp → VK → Prop} {tl th : TO} (q : te σ H fun x H1 => tl σ H1 fun l H2 => th σ H2 fun u H3 => r x l u H3 Q) : tSl r te tl th σ H Q := q
theorem r_nopart {R : Option Int → Hp → Prop} (q : R none H) : tNoPart σ H R := q
theorem r_part {R : Option Int → Hp → Prop} (q : te σ H fun x H1 => ∃ i, x = .int i ∧ R (some i) H1) : tPart te σ H R := q
theorem r_exI {n : Int} {R : Int → Prop} (q : R n) : ∃ k, V.int n = V.int k ∧ R k := ⟨n, rfl, q⟩
theorem r_slL {lo hi : Option Int} (h : SqL K H p xs) (q : ∀ c, H c = none → Q (.ref c) (upd H c (.lst (cutV xs lo hi)))) : rSlL K (.ref p) lo hi H Q := ⟨p, xs, rfl, h, q⟩
theorem r_cat (h : H p = some (.lst xs)) (h' : H b = some (.lst zs)) (l : xs.length + zs.length ≤ 100000) (q : ∀ c, H c = none → Q (.ref c) (upd H c (.lst (xs ++ zs)))) : rCat (.ref p) (.ref b) H Q := ⟨p, b, xs, zs, rfl, rfl, h, h', small_of l, q⟩
def rLen (K : PySem.W.Frag) (xs : List V) (H : Hp) (Q : VK) : Prop := ∃ p ys, xs = [.ref p] ∧ (SqL K H p ys ∨ SqT K H p ys) ∧ Q (.int ys.length) H
theorem call_lenQ {X : Cx} : CallR X (.builtin "len") (rLen X.K) := call_len_seq
theorem r_lenL (h : H p = some (.lst xs)) (q : Q (.int xs.length) H) : rLen K [.ref p] H Q := ⟨p, xs, rfl, .inl (.of h), q⟩
theorem r_lenT (h : H p = some (.tup xs)) (q : Q (.int xs.length) H) : rLen K [.ref p] H Q := ⟨p, xs, rfl, .inr (.of h), q⟩
theorem r_gTup {n : Nat} {t : TGs} {R : L2.St → Hp → Prop} (h : H p = some (.tup xs)) (l : xs.length = n) (q : t xs σ H R) : gTup K n t (.ref p) σ H R := ⟨p, xs, rfl, .of h, l, q⟩
theorem r_gCons {t : TG} {u : TGs} {v : V} {R : L2.St → Hp → Prop} (q : t v σ H fun σ' H' => u xs σ' H' R) : gCons t u (v :: xs) σ H R := ⟨v, xs, rfl, q⟩
theorem r_gNil {R : L2.St → Hp → Prop} (q : R σ H) : gNil [] σ H R := ⟨rfl, q⟩
theorem cut_len (lo hi : Option Int) : (cutV xs lo hi).length ≤ xs.length := by
  unfold cutV
  rw [List.length_take, List.length_drop]
  omega
theorem cut_mem {lo hi : Option Int} {x : V} (h : x ∈ cutV xs lo hi) : x ∈ xs := by
  unfold cutV at h
  exact List.mem_of_mem_drop (List.mem_of_mem_take h)
end
/-! ### loops -/
section
variable {σ : L2.St} {H : Hp} {Q : VK} {K : PySem.W.Frag} {D : Ends} {tb : TS} {g : TG} {c : TT} {p : Addr} {xs : List V}
theorem r_for {wi : TI} (q : wi σ H fun J H1 => ∃ W : Nat → Nat → L2.St → Hp → Prop, (∃ m, W 0 m σ H1) ∧ ∀ i m σ H, W i m σ H →
  (J.stop i H ∧ D.nx σ H) ∨ (J.go i H ∧ ∃ N : L2.St → Hp → Prop, (∀ σ' H', N σ' H' → ∃ m', m' < m ∧ W (i + 1) m' σ' H') ∧ ∀ x H', J.yld i H x H' → g x σ H' fun σ2 H2 => tb { D with nx := N, ct := N, bk := D.nx } σ2 H2)) : tFor wi g tb D σ H := q
theorem r_iList {tl : TE} {R : It → Hp → Prop} (q : tl σ H fun x H1 => ∃ a, x = .ref a ∧ (∃ xs, SqL K H1 a xs) ∧ R (Itl K a) H1) : iList K tl σ H R := q
theorem r_iTup {tl : TE} {R : It → Hp → Prop} (q : tl σ H fun x H1 => ∃ a, x = .ref a ∧ (∃ xs, SqT K H1 a xs) ∧ R (Itt K a) H1) : iTup K tl σ H R := q
theorem r_iR1 {ta : TA} {R : It → Hp → Prop} (q : ta σ H fun vs H1 => ∃ j : Int, vs = [.int j] ∧ -(2 ^ 62) ≤ j ∧ j < 2 ^ 62 ∧ R (Itr 0 j.toNat) H1) : iRng1 ta σ H R := q
theorem r_iR2 {ta : TA} {R : It → Hp → Prop} (q : ta σ H fun vs H1 => ∃ i j : Int, vs = [.int i, .int j] ∧ (-(2 ^ 62) ≤ i ∧ i < 2 ^ 62 ∧ -(2 ^ 62) ≤ j ∧ j < 2 ^ 62) ∧ R (Itr i (j - i).toNat) H1) : iRng2 ta σ H R := q
theorem u_forL (h : SqL K H p xs) (Pv : Nat → L2.St → Hp → Prop) (h0 : Pv 0 σ H) (hl : ∀ i σ H, i ≤ xs.length → Pv i σ H → SqL K H p xs)
    (hs : ∀ i x σ H, xs[i]? = some x → Pv i σ H → g x σ H fun σ2 H2 => tb { D with nx := Pv (i + 1), ct := Pv (i + 1), bk := D.nx } σ2 H2) (hd : ∀ σ H, Pv xs.length σ H → D.nx σ H) :
    ∃ a, V.ref p = .ref a ∧ (∃ xs, SqL K H a xs) ∧ ∃ W : Nat → Nat → L2.St → Hp → Prop, (∃ m, W 0 m σ H) ∧ ∀ i m σ H, W i m σ H →
      ((Itl K a).stop i H ∧ D.nx σ H) ∨ ((Itl K a).go i H ∧ ∃ N : L2.St → Hp → Prop, (∀ σ' H', N σ' H' → ∃ m', m' < m ∧ W (i + 1) m' σ' H') ∧ ∀ x H', (Itl K a).yld i H x H' → g x σ H' fun σ2 H2 => tb { D with nx := N, ct := N, bk := D.nx } σ2 H2) :=
  ⟨p, rfl, ⟨xs, h⟩, for_list Pv h0 hl hs hd⟩
theorem u_forT (h : SqT K H p xs) (Pv : Nat → L2.St → Hp → Prop) (h0 : Pv 0 σ H) (hl : ∀ i σ H, i ≤ xs.length → Pv i σ H → SqT K H p xs)
    (hs : ∀ i x σ H, xs[i]? = some x → Pv i σ H → g x σ H fun σ2 H2 => tb { D with nx := Pv (i + 1), ct := Pv (i + 1), bk := D.nx } σ2 H2) (hd : ∀ σ H, Pv xs.length σ H → D.nx σ H) :
    ∃ a, V.ref p = .ref a ∧ (∃ xs, SqT K H a xs) ∧ ∃ W : Nat → Nat → L2.St → Hp → Prop, (∃ m, W 0 m σ H) ∧ ∀ i m σ H, W i m σ H →
      ((Itt K a).stop i H ∧ D.nx σ H) ∨ ((Itt K a).go i H ∧ ∃ N : L2.St → Hp → Prop, (∀ σ' H', N σ' H' → ∃ m', m' < m ∧ W (i + 1) m' σ' H') ∧ ∀ x H', (Itt K a).yld i H x H' → g x σ H' fun σ2 H2 => tb { D with nx := N, ct := N, bk := D.nx } σ2 H2) :=
  ⟨p, rfl, ⟨xs, h⟩, for_tup Pv h0 hl hs hd⟩
theorem u_for1 {n : Int} (hb : -(2 ^ 62) ≤ n ∧ n < 2 ^ 62) (Pv : Nat → L2.St → Hp → Prop) (h0 : Pv 0 σ H)
    (hs : ∀ (i : Nat) σ H, (i : Int) < n → Pv i σ H → g (.int (i : Int)) σ H fun σ2 H2 => tb { D with nx := Pv (i + 1), ct := Pv (i + 1), bk := D.nx } σ2 H2) (hd : ∀ σ H, Pv n.toNat σ H → D.nx σ H) :
    -(2 ^ 62) ≤ n ∧ n < 2 ^ 62 ∧ ∃ W : Nat → Nat → L2.St → Hp → Prop, (∃ m, W 0 m σ H) ∧ ∀ i m σ H, W i m σ H →
      ((Itr 0 n.toNat).stop i H ∧ D.nx σ H) ∨ ((Itr 0 n.toNat).go i H ∧ ∃ N : L2.St → Hp → Prop, (∀ σ' H', N σ' H' → ∃ m', m' < m ∧ W (i + 1) m' σ' H') ∧ ∀ x H', (Itr 0 n.toNat).yld i H x H' → g x σ H' fun σ2 H2 => tb { D with nx := N, ct := N, bk := D.nx } σ2 H2) :=
  ⟨hb.1, hb.2, for_range Pv h0 (fun i σ H hi p => by rw [Int.zero_add]; exact hs i σ H (by omega) p) hd⟩
theorem u_for2 {lo n : Int} (hb : -(2 ^ 62) ≤ lo ∧ lo < 2 ^ 62 ∧ -(2 ^ 62) ≤ n ∧ n < 2 ^ 62) (Pv : Nat → L2.St → Hp → Prop) (h0 : Pv 0 σ H)
    (hs : ∀ (i : Nat) σ H, lo + (i : Int) < n → Pv i σ H → g (.int (lo + (i : Int))) σ H fun σ2 H2 => tb { D with nx := Pv (i + 1), ct := Pv (i + 1), bk := D.nx } σ2 H2) (hd : ∀ σ H, Pv (n - lo).toNat σ H → D.nx σ H) :
    (-(2 ^ 62) ≤ lo ∧ lo < 2 ^ 62 ∧ -(2 ^ 62) ≤ n ∧ n < 2 ^ 62) ∧ ∃ W : Nat → Nat → L2.St → Hp → Prop, (∃ m, W 0 m σ H) ∧ ∀ k m σ H, W k m σ H →
      ((Itr lo (n - lo).toNat).stop k H ∧ D.nx σ H) ∨ ((Itr lo (n - lo).toNat).go k H ∧ ∃ N : L2.St → Hp → Prop, (∀ σ' H', N σ' H' → ∃ m', m' < m ∧ W (k + 1) m' σ' H') ∧ ∀ x H', (Itr lo (n - lo).toNat).yld k H x H' → g x σ H' fun σ2 H2 => tb { D with nx := N, ct := N, bk := D.nx } σ2 H2) :=
  ⟨hb, for_range Pv h0 (fun i σ H hi p => hs i σ H (by omega) p) hd⟩
/-- while: W the word by a number that falls -/
theorem u_while (W : Nat → L2.St → Hp → Prop) (m0 : Nat) (h0 : W m0 σ H) (hs : ∀ m σ H, W m σ H →
  c σ H fun b H1 => if b = true then ∃ N : L2.St → Hp → Prop, (∀ σ' H', N σ' H' → ∃ m', m' < m ∧ W m' σ' H') ∧ tb { D with nx := N, ct := N, bk := D.nx } σ H1 else D.nx σ H1) : tWhile c tb D σ H := ⟨W, ⟨m0, h0⟩, hs⟩
theorem u_turn {W : Nat → L2.St → Hp → Prop} {m : Nat} (q : tb { D with nx := fun σ' H' => ∃ m', m' < m ∧ W m' σ' H', ct := fun σ' H' => ∃ m', m' < m ∧ W m' σ' H', bk := D.nx } σ H) :
  ∃ N : L2.St → Hp → Prop, (∀ σ' H', N σ' H' → ∃ m', m' < m ∧ W m' σ' H') ∧ tb { D with nx := N, ct := N, bk := D.nx } σ H := ⟨_, fun _ _ h => h, q⟩
/-- [elt for x in ..]: the word speaks of the list so far and of the heap -/
theorem r_lc {wi : TI} {tt : TT} {te : TE} {vs : List Nat} (q : wi σ H fun J H1 => ∀ D, H1 D = none → ∃ W : Nat → Nat → Hp → Prop, (∃ m, W 0 m (upd H1 D (.lst []))) ∧ ∀ i m H, W i m H →
  (J.stop i H ∧ Q (.ref D) H) ∨ (J.go i H ∧ ∃ Nx : Hp → Prop, (∀ H', Nx H' → ∃ m', m' < m ∧ W (i + 1) m' H') ∧ ∀ x H', J.yld i H x H' → g x (wipe σ vs) H' fun σ2 H2 => wipe σ2 vs = wipe σ vs ∧ tt σ2 H2 fun b H3 =>
    if b = true then te σ2 H3 fun y H4 => ∃ acc, H4 D = some (.lst acc) ∧ acc.length < sizeLine ∧ Nx (upd H4 D (.lst (acc ++ [y]))) else Nx H3)) : tLc wi g tt te vs σ H Q := q
theorem r_yes {R : Bool → Hp → Prop} (q : R true H) : tYes σ H R := q
def LcPush (D : Addr) (I : Addr → Nat → List V → Hp → Prop) (i : Nat) (H : Hp) (y : V) : Prop := ∃ acc, H D = some (.lst acc) ∧ acc.length < sizeLine ∧ ∃ acc', (upd H D (.lst (acc ++ [y]))) D = some (.lst acc') ∧ I D (i + 1) acc' (upd H D (.lst (acc ++ [y])))
def LcSkip (D : Addr) (I : Addr → Nat → List V → Hp → Prop) (i : Nat) (H : Hp) : Prop := ∃ acc, H D = some (.lst acc) ∧ I D (i + 1) acc H
theorem u_push {D : Addr} {I : Addr → Nat → List V → Hp → Prop} {i : Nat} {y : V} {acc : List V} (h : H D = some (.lst acc)) (l : acc.length < 100000) (q : I D (i + 1) (acc ++ [y]) (upd H D (.lst (acc ++ [y])))) : LcPush D I i H y :=
  ⟨acc, h, Nat.lt_of_lt_of_le l (by decide), acc ++ [y], upd_same, q⟩
theorem u_skip {D : Addr} {I : Addr → Nat → List V → Hp → Prop} {i : Nat} {acc : List V} (h : H D = some (.lst acc)) (q : I D (i + 1) acc H) : LcSkip D I i H := ⟨acc, h, q⟩
theorem u_lcL {tt : TT} {te : TE} {vs : List Nat} {Qd : Addr → Hp → Prop} (h : SqL K H p xs) (I : Addr → Nat → List V → Hp → Prop) (h0 : ∀ D, H D = none → I D 0 [] (upd H D (.lst [])))
    (hl : ∀ D i acc H', H D = none → H' D = some (.lst acc) → I D i acc H' → SqL K H' p xs)
    (hs : ∀ D i x acc H', H D = none → xs[i]? = some x → H' D = some (.lst acc) → I D i acc H' → g x (wipe σ vs) H' fun σ2 H2 => wipe σ2 vs = wipe σ vs ∧ tt σ2 H2 fun b H3 => if b = true then te σ2 H3 fun y H4 => LcPush D I i H4 y else LcSkip D I i H3)
    (hd : ∀ D acc H', H D = none → H' D = some (.lst acc) → I D xs.length acc H' → Qd D H') :
    ∃ a, V.ref p = .ref a ∧ (∃ xs, SqL K H a xs) ∧ ∀ D, H D = none → ∃ W : Nat → Nat → Hp → Prop, (∃ m, W 0 m (upd H D (.lst []))) ∧ ∀ i m H, W i m H →
      ((Itl K a).stop i H ∧ Qd D H) ∨ ((Itl K a).go i H ∧ ∃ Nx : Hp → Prop, (∀ H', Nx H' → ∃ m', m' < m ∧ W (i + 1) m' H') ∧ ∀ x H', (Itl K a).yld i H x H' → g x (wipe σ vs) H' fun σ2 H2 => wipe σ2 vs = wipe σ vs ∧ tt σ2 H2 fun b H3 =>
        if b = true then te σ2 H3 fun y H4 => ∃ acc, H4 D = some (.lst acc) ∧ acc.length < sizeLine ∧ Nx (upd H4 D (.lst (acc ++ [y]))) else Nx H3) :=
  ⟨p, rfl, ⟨xs, h⟩, fun D hD => lc_list (xs := xs) (fun i H' => ∃ acc, H' D = some (.lst acc) ∧ I D i acc H') ⟨[], upd_same, h0 D hD⟩ (fun i H' _ ⟨acc, e, q⟩ => hl D i acc H' hD e q)
    (fun i x H' hi ⟨acc, e, q⟩ => hs D i x acc H' hD hi e q) fun H' ⟨acc, e, q⟩ => hd D acc H' hD e q⟩
theorem u_lcT {tt : TT} {te : TE} {vs : List Nat} {Qd : Addr → Hp → Prop} (h : SqT K H p xs) (I : Addr → Nat → List V → Hp → Prop) (h0 : ∀ D, H D = none → I D 0 [] (upd H D (.lst [])))
    (hl : ∀ D i acc H', H D = none → H' D = some (.lst acc) → I D i acc H' → SqT K H' p xs)
    (hs : ∀ D i x acc H', H D = none → xs[i]? = some x → H' D = some (.lst acc) → I D i acc H' → g x (wipe σ vs) H' fun σ2 H2 => wipe σ2 vs = wipe σ vs ∧ tt σ2 H2 fun b H3 => if b = true then te σ2 H3 fun y H4 => LcPush D I i H4 y else LcSkip D I i H3)
    (hd : ∀ D acc H', H D = none → H' D = some (.lst acc) → I D xs.length acc H' → Qd D H') :
    ∃ a, V.ref p = .ref a ∧ (∃ xs, SqT K H a xs) ∧ ∀ D, H D = none → ∃ W : Nat → Nat → Hp → Prop, (∃ m, W 0 m (upd H D (.lst []))) ∧ ∀ i m H, W i m H →
      ((Itt K a).stop i H ∧ Qd D H) ∨ ((Itt K a).go i H ∧ ∃ Nx : Hp → Prop, (∀ H', Nx H' → ∃ m', m' < m ∧ W (i + 1) m' H') ∧ ∀ x H', (Itt K a).yld i H x H' → g x (wipe σ vs) H' fun σ2 H2 => wipe σ2 vs = wipe σ vs ∧ tt σ2 H2 fun b H3 =>
        if b = true then te σ2 H3 fun y H4 => ∃ acc, H4 D = some (.lst acc) ∧ acc.length < sizeLine ∧ Nx (upd H4 D (.lst (acc ++ [y]))) else Nx H3) :=
  ⟨p, rfl, ⟨xs, h⟩, fun D hD => lc_tup (xs := xs) (fun i H' => ∃ acc, H' D = some (.lst acc) ∧ I D i acc H') ⟨[], upd_same, h0 D hD⟩ (fun i H' _ ⟨acc, e, q⟩ => hl D i acc H' hD e q)
    (fun i x H' hi ⟨acc, e, q⟩ => hs D i x acc H' hD hi e q) fun H' ⟨acc, e, q⟩ => hd D acc H' hD e q⟩
theorem u_lc1 {tt : TT} {te : TE} {vs : List Nat} {Qd : Addr → Hp → Prop} {n : Int} (hb : -(2 ^ 62) ≤ n ∧ n < 2 ^ 62) (I : Addr → Nat → List V → Hp → Prop) (h0 : ∀ D, H D = none → I D 0 [] (upd H D (.lst [])))
    (hs : ∀ D (i : Nat) acc H', H D = none → (i : Int) < n → H' D = some (.lst acc) → I D i acc H' → g (.int (i : Int)) (wipe σ vs) H' fun σ2 H2 => wipe σ2 vs = wipe σ vs ∧ tt σ2 H2 fun b H3 => if b = true then te σ2 H3 fun y H4 => LcPush D I i H4 y else LcSkip D I i H3)
    (hd : ∀ D acc H', H D = none → H' D = some (.lst acc) → I D n.toNat acc H' → Qd D H') :
    -(2 ^ 62) ≤ n ∧ n < 2 ^ 62 ∧ ∀ D, H D = none → ∃ W : Nat → Nat → Hp → Prop, (∃ m, W 0 m (upd H D (.lst []))) ∧ ∀ i m H, W i m H →
      ((Itr 0 n.toNat).stop i H ∧ Qd D H) ∨ ((Itr 0 n.toNat).go i H ∧ ∃ Nx : Hp → Prop, (∀ H', Nx H' → ∃ m', m' < m ∧ W (i + 1) m' H') ∧ ∀ x H', (Itr 0 n.toNat).yld i H x H' → g x (wipe σ vs) H' fun σ2 H2 => wipe σ2 vs = wipe σ vs ∧ tt σ2 H2 fun b H3 =>
        if b = true then te σ2 H3 fun y H4 => ∃ acc, H4 D = some (.lst acc) ∧ acc.length < sizeLine ∧ Nx (upd H4 D (.lst (acc ++ [y]))) else Nx H3) :=
  ⟨hb.1, hb.2, fun D hD => lc_range (fun i H' => ∃ acc, H' D = some (.lst acc) ∧ I D i acc H') ⟨[], upd_same, h0 D hD⟩
    (fun i H' hi ⟨acc, e, q⟩ => by rw [Int.zero_add]; exact hs D i acc H' hD (by omega) e q) fun H' ⟨acc, e, q⟩ => hd D acc H' hD e q⟩
end
/-! ### heaps -/
/-- the heap at a, in words: looked up through stores -/
theorem h_keep {H : Hp} {a p : Addr} {o u : HO} (h : H a = some u) (n : H p = none) : upd H p o a = some u := (upd_ne (ne_of_none h n)).trans h
/-- all that was tracked but what stands at a -/
def But (a : Addr) (H H' : Hp) : Prop := ∀ b o, b ≠ a → H b = some o → H' b = some o
theorem But.refl (a : Addr) (H : Hp) : But a H H := fun _ _ _ h => h
theorem But.trans {a : Addr} {H H1 H2 : Hp} (h : But a H H1) (k : But a H1 H2) : But a H H2 := fun b o n e => k b o n (h b o n e)
theorem But.new {a p : Addr} {H H' : Hp} {o : HO} (h : But a H H') (n : H' p = none) : But a H (upd H' p o) := fun b u nb e => h_keep (h b u nb e) n
theorem But.self {a : Addr} {H H' : Hp} {o : HO} (h : But a H H') : But a H (upd H' a o) := fun b u nb e => (upd_ne nb).trans (h b u nb e)
theorem But.put {a p : Addr} {H H' : Hp} {o : HO} (h : But a H H') (n : H p = none) : But a H (upd H' p o) := fun b u nb e => (upd_ne (ne_of_none e n)).trans (h b u nb e)
theorem fmod_nat (a b : Nat) : (a : Int).fmod (b : Int) = ((a % b : Nat) : Int) := by
  rw [Int.fmod_eq_emod_of_nonneg _ (Int.natCast_nonneg _), Int.natCast_emod]
theorem fdiv_nat (a b : Nat) : (a : Int) / (b : Int) = ((a / b : Nat) : Int) := (Int.natCast_ediv a b).symm
def vints (l : List Nat) : List V := l.map fun (k : Nat) => V.int (k : Int)
theorem vints_app (l m : List Nat) : vints (l ++ m) = vints l ++ vints m := List.map_append
theorem vints_len (l : List Nat) : (vints l).length = l.length := List.length_map _
theorem vints_get {l : List Nat} {i : Nat} {x : V} (h : (vints l)[i]? = some x) : ∃ k, l[i]? = some k ∧ x = .int (k : Int) := by
  unfold vints at h
  rw [List.getElem?_map] at h
  cases e : l[i]? with
  | none => rw [e] at h; cases h
  | some k => rw [e] at h; exact ⟨k, rfl, (Option.some.inj h).symm⟩
theorem Same.at {H H' : Hp} {a : Addr} {o : HO} (s : Same H H') (h : H a = some o) : H' a = some o := s a o h
theorem But.at {H H' : Hp} {a b : Addr} {o : HO} (s : But b H H') (n : a ≠ b) (h : H a = some o) : H' a = some o := s a o n h
theorem log_small {n : Int} (h : n.natAbs < 2 ^ 8000) : n.natAbs.log2 < 9000 := by
  by_cases h0 : n.natAbs = 0
  · rw [h0]; decide
  · exact Nat.lt_of_lt_of_le ((Nat.log2_lt h0).mpr h) (by decide)
theorem Same.new0 {p : Addr} {H : Hp} {o : HO} (n : H p = none) : Same H (upd H p o) := fun b u e => h_keep e n
theorem Same.new {p : Addr} {H H' : Hp} {o : HO} (h : Same H H') (n : H' p = none) : Same H (upd H' p o) := fun b u e => h_keep (h b u e) n
theorem Same.put {p : Addr} {H H' : Hp} {o : HO} (h : Same H H') (n : H p = none) : Same H (upd H' p o) := fun b u e => (upd_ne (ne_of_none e n)).trans (h b u e)
theorem Same.but {H H' : Hp} (h : Same H H') (a : Addr) : But a H H' := fun b u _ e => h b u e
theorem But.free {a p : Addr} {H H' : Hp} (h : But a H H') (n : p ≠ a) (e : H' p = none) : H p = none := by
  cases q : H p with
  | none => rfl
  | some o => rw [h p o n q] at e; cases e
/-- what is new may change -/
theorem Same.but2 {a : Addr} {H H1 H2 : Hp} (s : Same H H1) (n : H a = none) (b : But a H1 H2) : Same H H2 := fun c o e => b c o (ne_of_none e n) (s c o e)
/-- the law's bag: three ints, the second one small -/
def Bag (H : Hp) (a : Addr) : Prop := ∃ x y z : Int, H a = some (.lst [.int x, .int y, .int z]) ∧ 0 ≤ y ∧ y ≤ 2147483647 ∧ 0 ≤ z
theorem Bag.keep {H : Hp} {a p : Addr} {o : HO} (h : Bag H a) (n : H p = none) : Bag (upd H p o) a := by
  obtain ⟨x, y, z, e, r⟩ := h
  exact ⟨x, y, z, h_keep e n, r⟩
theorem Bag.ne {H : Hp} {a p : Addr} (h : Bag H a) (n : H p = none) : p ≠ a := by
  obtain ⟨x, y, z, e, r⟩ := h
  exact (ne_of_none e n).symm
theorem Bag.same {H H' : Hp} {a : Addr} (h : Bag H a) (s : Same H H') : Bag H' a := by
  obtain ⟨x, y, z, e, r⟩ := h
  exact ⟨x, y, z, s _ _ e, r⟩
def spBagOf : Sp := fun vs H Q _ => ∃ c : Int, vs = [.int c] ∧ ∀ p H', H p = none → Same H H' → Bag H' p → Q (.ref p) H'
def spPick : Sp := fun vs H Q _ => ∃ (a : Addr) (n : Int), vs = [.ref a, .int n] ∧ Bag H a ∧ 0 < n ∧ n ≤ 1000000 ∧ ∀ (r : Int) H', 0 ≤ r → r < n → But a H H' → Bag H' a → Q (.int r) H'
theorem u_pick {H : Hp} {Q : VK} {E : XK} {a : Addr} {n : Int} (h : Bag H a) (n0 : 0 < n) (n1 : n ≤ 1000000) (q : ∀ (r : Int) H', 0 ≤ r → r < n → But a H H' → Bag H' a → Q (.int r) H') : spPick [.ref a, .int n] H Q E := ⟨a, n, rfl, h, n0, n1, q⟩
/-- the law's promise: a list of at most 63 ints goes in, True comes out -/
def spLaw (K : PySem.W.Frag) : Sp := fun vs H Q _ => ∃ (a : Addr) (ns : List Int), vs = [.ref a] ∧ SqL K H a (ns.map V.int) ∧ ns.length ≤ 63 ∧ ∀ H', Q (.bl true) H'
/-- the cells of a law's outer loop are ints -/
theorem cells_int {g : Int} {ns : List Int} {lo hi : Option Int} {i : Nat} {x : V} (h : ([V.int g] ++ cutV (ns.map V.int) lo hi)[i]? = some x) : ∃ c, x = .int c := by
  rcases List.mem_append.mp (List.mem_of_getElem? h) with h | h
  · exact ⟨g, List.mem_singleton.mp h⟩
  · obtain ⟨c, _, e⟩ := List.mem_map.mp (cut_mem h)
    exact ⟨c, e.symm⟩
/-! ### the rules that name the written part, with its name given (a comprehension's block has another context) -/
section
variable {X : Cx} {K : PySem.W.Frag}
theorem ix_listK (h : X.K = K := by rfl) : IxR X (rIxL K) := by subst h; exact ix_list
theorem ix_tupK (h : X.K = K := by rfl) : IxR X (rIxT K) := by subst h; exact ix_tup
theorem call_lenK (h : X.K = K := by rfl) : CallR X (.builtin "len") (rLen K) := by subst h; exact call_lenQ
theorem call_isiKK (h : X.K = K := by rfl) : CallR X (.builtin "isinstance") (rIsi K) := by subst h; exact call_isi
theorem call_allK (hc : X.calm = true := by rfl) (h : X.K = K := by rfl) : CallR X (.builtin "all") (rAll K) := by subst h; exact cr_all hc
theorem call_anyK (hc : X.calm = true := by rfl) (h : X.K = K := by rfl) : CallR X (.builtin "any") (rAny K) := by subst h; exact cr_any hc
end
end My

set_option Elab.async false
set_option linter.all false
set_option maxRecDepth 400000
namespace My
open PySem PySem.Spec PyProof.Rows L2
/-! ### programs as data -/
inductive Prog where
  | nil
  | step (w n : Str) (r : Prog)
  | turn (k : Int) (r : Prog)
  | rep (k : Int) (b r : Prog)
  | mir (b r : Prog)
namespace Prog
def app : Prog → Prog → Prog
  | .nil, q => q
  | .step w n r, q => .step w n (r.app q)
  | .turn k r, q => .turn k (r.app q)
  | .rep k b r, q => .rep k b (r.app q)
  | .mir b r, q => .mir b (r.app q)
def len : Prog → Nat
  | .nil => 0
  | .step _ _ r => r.len + 1
  | .turn _ r => r.len + 1
  | .rep _ _ r => r.len + 1
  | .mir _ r => r.len + 1
def size : Prog → Int
  | .nil => 0
  | .step _ _ r => 1 + r.size
  | .turn _ r => 1 + r.size
  | .rep k b r => k * b.size + r.size
  | .mir b r => b.size + r.size
def head : Prog → Int
  | .nil => 0
  | .step _ _ r => r.head
  | .turn k r => k + r.head
  | .rep k b r => k * b.head + r.head
  | .mir b r => -b.head + r.head
def times : Nat → Prog → Prog
  | 0, _ => .nil
  | n + 1, p => p.app (times n p)
def unroll : Int → Prog → Prog
  | _, .nil => .nil
  | s, .step w n r => .step w n (unroll s r)
  | s, .turn k r => .turn (s * k) (unroll s r)
  | s, .rep k b r => (times k.toNat (unroll s b)).app (unroll s r)
  | s, .mir b r => (unroll (-s) b).app (unroll s r)
/-- the turns' numbers of a flat program -/
def turns : Prog → List Int
  | .nil => []
  | .step _ _ r => r.turns
  | .turn k r => k :: r.turns
  | .rep _ _ r => r.turns
  | .mir _ r => r.turns
def take : Nat → Prog → Prog
  | 0, _ => .nil
  | _ + 1, .nil => .nil
  | n + 1, .step w m r => .step w m (r.take n)
  | n + 1, .turn k r => .turn k (r.take n)
  | n + 1, .rep k b r => .rep k b (r.take n)
  | n + 1, .mir b r => .mir b (r.take n)
end Prog
def IsWord (w : Str) : Prop := w = "go" ∨ w = "back" ∨ w = "hop" ∨ w = "slip"
/-- one letter from a to z -/
def IsName (n : Str) : Prop := ∃ c : Nat, n = ⟨#[c]⟩ ∧ 97 ≤ c ∧ c ≤ 122
/-- a program nested at most d deep; counts from 1 to C, turns to T of either sign, at most 4000 commands in each repeat or mirror -/
def WfL (L : Nat) (C T : Int) : Nat → Prog → Prop
  | _, .nil => True
  | d, .step w n r => IsWord w ∧ IsName n ∧ WfL L C T d r
  | d, .turn k r => (-T ≤ k ∧ k ≤ T) ∧ WfL L C T d r
  | 0, .rep _ _ _ => False
  | d + 1, .rep k b r => (1 ≤ k ∧ k ≤ C) ∧ (1 ≤ b.len ∧ b.len ≤ L) ∧ WfL L C T d b ∧ WfL L C T (d + 1) r
  | 0, .mir _ _ => False
  | d + 1, .mir b r => (1 ≤ b.len ∧ b.len ≤ L) ∧ WfL L C T d b ∧ WfL L C T (d + 1) r
theorem WfL.app {L : Nat} {C T : Int} : ∀ {d : Nat} {p q : Prog}, WfL L C T d p → WfL L C T d q → WfL L C T d (p.app q)
  | _, .nil, _, _, h => h
  | d, .step w n r, q, h, h' => by
    cases d <;> exact ⟨h.1, h.2.1, WfL.app h.2.2 h'⟩
  | d, .turn k r, q, h, h' => by
    cases d <;> exact ⟨h.1, WfL.app h.2 h'⟩
  | 0, .rep _ _ _, _, h, _ => h.elim
  | d + 1, .rep k b r, q, h, h' => ⟨h.1, h.2.1, h.2.2.1, WfL.app h.2.2.2 h'⟩
  | 0, .mir _ _, _, h, _ => h.elim
  | d + 1, .mir b r, q, h, h' => ⟨h.1, h.2.1, WfL.app h.2.2 h'⟩
theorem WfL.step_iff {L : Nat} {C T : Int} {d : Nat} {w n : Str} {r : Prog} : WfL L C T d (.step w n r) ↔ IsWord w ∧ IsName n ∧ WfL L C T d r := by cases d <;> exact Iff.rfl
theorem WfL.turn_iff {L : Nat} {C T : Int} {d : Nat} {k : Int} {r : Prog} : WfL L C T d (.turn k r) ↔ (-T ≤ k ∧ k ≤ T) ∧ WfL L C T d r := by cases d <;> exact Iff.rfl
theorem WfL.nil {L : Nat} {C T : Int} {d : Nat} : WfL L C T d .nil := by cases d <;> trivial
theorem WfL.mono {L : Nat} {C T C' T' : Int} (hC : C ≤ C') (hT : T ≤ T') : ∀ {d d' : Nat} {p : Prog}, d ≤ d' → WfL L C T d p → WfL L C' T' d' p
  | d, d', .nil, _, _ => WfL.nil
  | d, d', .step w n r, hd, h => WfL.step_iff.mpr ⟨(WfL.step_iff.mp h).1, (WfL.step_iff.mp h).2.1, WfL.mono hC hT hd (WfL.step_iff.mp h).2.2⟩
  | d, d', .turn k r, hd, h => by
    have h := WfL.turn_iff.mp h
    exact WfL.turn_iff.mpr ⟨⟨by omega, by omega⟩, WfL.mono hC hT hd h.2⟩
  | 0, _, .rep _ _ _, _, h => h.elim
  | d + 1, 0, .rep _ _ _, hd, _ => absurd hd (by omega)
  | d + 1, d' + 1, .rep k b r, hd, h => ⟨⟨h.1.1, by have := h.1.2; omega⟩, h.2.1, WfL.mono hC hT (by omega) h.2.2.1, WfL.mono hC hT hd h.2.2.2⟩
  | 0, _, .mir _ _, _, h => h.elim
  | d + 1, 0, .mir _ _, hd, _ => absurd hd (by omega)
  | d + 1, d' + 1, .mir b r, hd, h => ⟨h.1, WfL.mono hC hT (by omega) h.2.1, WfL.mono hC hT hd h.2.2⟩
abbrev Wf := WfL 4000
theorem WfL.wide {L L' : Nat} {C T : Int} (hL : L ≤ L') : ∀ {d : Nat} {p : Prog}, WfL L C T d p → WfL L' C T d p
  | d, .nil, _ => WfL.nil
  | d, .step w n r, h => WfL.step_iff.mpr ⟨(WfL.step_iff.mp h).1, (WfL.step_iff.mp h).2.1, WfL.wide hL (WfL.step_iff.mp h).2.2⟩
  | d, .turn k r, h => WfL.turn_iff.mpr ⟨(WfL.turn_iff.mp h).1, WfL.wide hL (WfL.turn_iff.mp h).2⟩
  | 0, .rep _ _ _, h => h.elim
  | d + 1, .rep k b r, h => ⟨h.1, ⟨h.2.1.1, Nat.le_trans h.2.1.2 hL⟩, WfL.wide hL h.2.2.1, WfL.wide hL h.2.2.2⟩
  | 0, .mir _ _, h => h.elim
  | d + 1, .mir b r, h => ⟨⟨h.1.1, Nat.le_trans h.1.2 hL⟩, WfL.wide hL h.2.1, WfL.wide hL h.2.2⟩
namespace Prog
theorem app_nil : ∀ p : Prog, p.app .nil = p
  | .nil => rfl
  | .step w n r => by rw [app, app_nil r]
  | .turn k r => by rw [app, app_nil r]
  | .rep k b r => by rw [app, app_nil r]
  | .mir b r => by rw [app, app_nil r]
theorem app_assoc : ∀ p q r : Prog, (p.app q).app r = p.app (q.app r)
  | .nil, _, _ => rfl
  | .step w n p, q, r => by rw [app, app, app, app_assoc p q r]
  | .turn k p, q, r => by rw [app, app, app, app_assoc p q r]
  | .rep k b p, q, r => by rw [app, app, app, app_assoc p q r]
  | .mir b p, q, r => by rw [app, app, app, app_assoc p q r]
theorem len_app : ∀ p q : Prog, (p.app q).len = p.len + q.len
  | .nil, q => by rw [app, len, Nat.zero_add]
  | .step w n p, q => by rw [app, len, len, len_app p q]; omega
  | .turn k p, q => by rw [app, len, len, len_app p q]; omega
  | .rep k b p, q => by rw [app, len, len, len_app p q]; omega
  | .mir b p, q => by rw [app, len, len, len_app p q]; omega
theorem size_app : ∀ p q : Prog, (p.app q).size = p.size + q.size
  | .nil, q => by rw [app, size]; omega
  | .step w n p, q => by rw [app, size, size, size_app p q]; omega
  | .turn k p, q => by rw [app, size, size, size_app p q]; omega
  | .rep k b p, q => by rw [app, size, size, size_app p q]; omega
  | .mir b p, q => by rw [app, size, size, size_app p q]; omega
theorem head_app : ∀ p q : Prog, (p.app q).head = p.head + q.head
  | .nil, q => by rw [app, head]; omega
  | .step w n p, q => by rw [app, head, head, head_app p q]
  | .turn k p, q => by rw [app, head, head, head_app p q]; omega
  | .rep k b p, q => by rw [app, head, head, head_app p q]; omega
  | .mir b p, q => by rw [app, head, head, head_app p q]; omega
theorem turns_app : ∀ p q : Prog, (p.app q).turns = p.turns ++ q.turns
  | .nil, q => by rw [app, turns, List.nil_append]
  | .step w n p, q => by rw [app, turns, turns, turns_app p q]
  | .turn k p, q => by rw [app, turns, turns, turns_app p q, List.cons_append]
  | .rep k b p, q => by rw [app, turns, turns, turns_app p q]
  | .mir b p, q => by rw [app, turns, turns, turns_app p q]
theorem turns_times (n : Nat) (p : Prog) : (times n p).turns.sum = n * p.turns.sum := by
  induction n with
  | zero => rw [times, turns]; simp
  | succ n ih => rw [times, turns_app, List.sum_append, ih, Int.natCast_succ, Int.add_mul]; omega
/-- the sum of its turns -/
theorem turns_unroll {L : Nat} {C T : Int} : ∀ {d : Nat} {p : Prog} (s : Int), WfL L C T d p → (unroll s p).turns.sum = s * p.head
  | _, .nil, s, _ => by rw [unroll, turns, head]; simp
  | d, .step w n r, s, h => by have := turns_unroll s (WfL.step_iff.mp h).2.2; rw [unroll, turns, head]; omega
  | d, .turn k r, s, h => by have := turns_unroll s (WfL.turn_iff.mp h).2; rw [unroll, turns, head, List.sum_cons, this, Int.mul_add]
  | 0, .rep _ _ _, s, h => h.elim
  | d + 1, .rep k b r, s, h => by
    have h1 := turns_unroll s h.2.2.1
    have h2 := turns_unroll s h.2.2.2
    have hk := h.1.1
    rw [unroll, turns_app, List.sum_append, turns_times, h1, h2, head, Int.toNat_of_nonneg (by omega), Int.mul_add, Int.mul_left_comm]
  | 0, .mir _ _, s, h => h.elim
  | d + 1, .mir b r, s, h => by
    have h1 := turns_unroll (-s) h.2.1
    have h2 := turns_unroll s h.2.2
    rw [unroll, turns_app, List.sum_append, h1, h2, head, Int.mul_add, Int.neg_mul, Int.mul_neg]
/-- a flat program: steps and turns alone -/
theorem wf_times {L : Nat} {C T : Int} {d : Nat} {p : Prog} (h : WfL L C T d p) : ∀ n, WfL L C T d (times n p)
  | 0 => WfL.nil
  | n + 1 => WfL.app h (wf_times h n)
theorem wf_unroll {L : Nat} {C T : Int} : ∀ {d : Nat} {p : Prog} {s : Int}, (s = 1 ∨ s = -1) → WfL L C T d p → WfL L C T 0 (unroll s p)
  | _, .nil, s, _, _ => WfL.nil
  | d, .step w n r, s, hs, h => by
    have h := WfL.step_iff.mp h
    exact WfL.step_iff.mpr ⟨h.1, h.2.1, wf_unroll hs h.2.2⟩
  | d, .turn k r, s, hs, h => by
    have h := WfL.turn_iff.mp h
    refine WfL.turn_iff.mpr ⟨?_, wf_unroll hs h.2⟩
    rcases hs with rfl | rfl <;> omega
  | 0, .rep _ _ _, s, _, h => h.elim
  | d + 1, .rep k b r, s, hs, h => WfL.app (wf_times (wf_unroll hs h.2.2.1) _) (wf_unroll hs h.2.2.2)
  | 0, .mir _ _, s, _, h => h.elim
  | d + 1, .mir b r, s, hs, h => WfL.app (wf_unroll (by omega) h.2.1) (wf_unroll hs h.2.2)
theorem size_flat {L : Nat} {C T : Int} : ∀ {p : Prog}, WfL L C T 0 p → p.size = p.len
  | .nil, _ => by rw [size, len]; rfl
  | .step w n r, h => by have := size_flat (WfL.step_iff.mp h).2.2; rw [size, len]; omega
  | .turn k r, h => by have := size_flat (WfL.turn_iff.mp h).2; rw [size, len]; omega
  | .rep _ _ _, h => h.elim
  | .mir _ _, h => h.elim
end Prog
end My

set_option Elab.async false
set_option linter.all false
set_option maxRecDepth 100000
namespace My
open PySem PySem.Spec PyProof.Rows L2
/-! ### programs on the heap -/
/-- the tuples stay -/
def Tk (H H' : Hp) : Prop := ∀ c xs, H c = some (.tup xs) → H' c = some (.tup xs)
theorem Tk.refl (H : Hp) : Tk H H := fun _ _ h => h
theorem Tk.trans {H H1 H2 : Hp} (h : Tk H H1) (k : Tk H1 H2) : Tk H H2 := fun c xs e => k c xs (h c xs e)
theorem Tk.same {H H' : Hp} (h : Same H H') : Tk H H' := fun c xs e => h c _ e
theorem Tk.but {H H' : Hp} {a : Addr} (h : But a H H') (b : Bag H a) : Tk H H' := fun c xs e => by
  obtain ⟨x, y, z, ea, _⟩ := b
  exact h c _ (ne_of e ea (by intro z; cases z)) e
theorem Tk.new {H H' : Hp} {p : Addr} {o : HO} (h : Tk H H') (n : H' p = none) : Tk H (upd H' p o) := fun c xs e => h_keep (h c xs e) n
theorem Tk.lst {H H' : Hp} {p : Addr} {l : List V} {o : HO} (h : Tk H H') (n : H' p = some (.lst l)) : Tk H (upd H' p o) := fun c xs e => (upd_ne (ne_of (h c xs e) n (by intro z; cases z))).trans (h c xs e)
def PrAt (H : Hp) : Prog → List V → Prop
  | .nil, xs => xs = []
  | .step w n r, xs => ∃ c ys, xs = .ref c :: ys ∧ H c = some (.tup [.str w, .str n]) ∧ PrAt H r ys
  | .turn k r, xs => ∃ c ys, xs = .ref c :: ys ∧ H c = some (.tup [.str "turn", .int k]) ∧ PrAt H r ys
  | .rep k b r, xs => ∃ c q zs ys, xs = .ref c :: ys ∧ H c = some (.tup [.str "repeat", .int k, .ref q]) ∧ H q = some (.tup zs) ∧ PrAt H b zs ∧ PrAt H r ys
  | .mir b r, xs => ∃ c q zs ys, xs = .ref c :: ys ∧ H c = some (.tup [.str "mirror", .ref q]) ∧ H q = some (.tup zs) ∧ PrAt H b zs ∧ PrAt H r ys
def PrIs (H : Hp) (a : Addr) (p : Prog) : Prop := ∃ xs, H a = some (.tup xs) ∧ PrAt H p xs
theorem PrAt.tk {H H' : Hp} (t : Tk H H') : ∀ {p : Prog} {xs : List V}, PrAt H p xs → PrAt H' p xs
  | .nil, _, h => h
  | .step w n r, _, ⟨c, ys, e, h1, h2⟩ => ⟨c, ys, e, t _ _ h1, h2.tk t⟩
  | .turn k r, _, ⟨c, ys, e, h1, h2⟩ => ⟨c, ys, e, t _ _ h1, h2.tk t⟩
  | .rep k b r, _, ⟨c, q, zs, ys, e, h1, h2, h3, h4⟩ => ⟨c, q, zs, ys, e, t _ _ h1, t _ _ h2, h3.tk t, h4.tk t⟩
  | .mir b r, _, ⟨c, q, zs, ys, e, h1, h2, h3, h4⟩ => ⟨c, q, zs, ys, e, t _ _ h1, t _ _ h2, h3.tk t, h4.tk t⟩
theorem PrIs.tk {H H' : Hp} {a : Addr} {p : Prog} (h : PrIs H a p) (t : Tk H H') : PrIs H' a p := let ⟨xs, e, q⟩ := h; ⟨xs, t _ _ e, q.tk t⟩
theorem PrAt.length {H : Hp} : ∀ {p : Prog} {xs : List V}, PrAt H p xs → xs.length = p.len
  | .nil, _, h => by rw [show _ = [] from h]; rfl
  | .step w n r, _, ⟨c, ys, e, h1, h2⟩ => by rw [e, List.length_cons, h2.length]; rfl
  | .turn k r, _, ⟨c, ys, e, h1, h2⟩ => by rw [e, List.length_cons, h2.length]; rfl
  | .rep k b r, _, ⟨c, q, zs, ys, e, h1, h2, h3, h4⟩ => by rw [e, List.length_cons, h4.length]; rfl
  | .mir b r, _, ⟨c, q, zs, ys, e, h1, h2, h3, h4⟩ => by rw [e, List.length_cons, h4.length]; rfl
theorem PrAt.app {H : Hp} : ∀ {p q : Prog} {xs ys : List V}, PrAt H p xs → PrAt H q ys → PrAt H (p.app q) (xs ++ ys)
  | .nil, q, xs, ys, h, k => by rw [show xs = [] from h]; exact k
  | .step w n r, q, _, ys, ⟨c, zs, e, h1, h2⟩, k => ⟨c, zs ++ ys, by rw [e]; rfl, h1, h2.app k⟩
  | .turn k' r, q, _, ys, ⟨c, zs, e, h1, h2⟩, k => ⟨c, zs ++ ys, by rw [e]; rfl, h1, h2.app k⟩
  | .rep k' b r, q, _, ys, ⟨c, q', zs, ws, e, h1, h2, h3, h4⟩, k => ⟨c, q', zs, ws ++ ys, by rw [e]; rfl, h1, h2, h3, h4.app k⟩
  | .mir b r, q, _, ys, ⟨c, q', zs, ws, e, h1, h2, h3, h4⟩, k => ⟨c, q', zs, ws ++ ys, by rw [e]; rfl, h1, h2, h3, h4.app k⟩
theorem PrAt.take {H : Hp} : ∀ {n : Nat} {p : Prog} {xs : List V}, PrAt H p xs → PrAt H (p.take n) (xs.take n)
  | 0, p, xs, h => by rw [Prog.take, List.take_zero]; rfl
  | n + 1, .nil, xs, h => by rw [show xs = [] from h, Prog.take, List.take_nil]; rfl
  | n + 1, .step w m r, _, ⟨c, zs, e, h1, h2⟩ => ⟨c, zs.take n, by rw [e, List.take_succ_cons], h1, h2.take⟩
  | n + 1, .turn k r, _, ⟨c, zs, e, h1, h2⟩ => ⟨c, zs.take n, by rw [e, List.take_succ_cons], h1, h2.take⟩
  | n + 1, .rep k b r, _, ⟨c, q', zs, ws, e, h1, h2, h3, h4⟩ => ⟨c, q', zs, ws.take n, by rw [e, List.take_succ_cons], h1, h2, h3, h4.take⟩
  | n + 1, .mir b r, _, ⟨c, q', zs, ws, e, h1, h2, h3, h4⟩ => ⟨c, q', zs, ws.take n, by rw [e, List.take_succ_cons], h1, h2, h3, h4.take⟩
/-- x is the first command of r, r' the rest -/
def First (H : Hp) : Prog → V → Prog → Prop
  | .nil, _, _ => False
  | .step w n r, x, r' => ∃ c, x = .ref c ∧ H c = some (.tup [.str w, .str n]) ∧ r' = r
  | .turn k r, x, r' => ∃ c, x = .ref c ∧ H c = some (.tup [.str "turn", .int k]) ∧ r' = r
  | .rep k b r, x, r' => ∃ c q, x = .ref c ∧ H c = some (.tup [.str "repeat", .int k, .ref q]) ∧ PrIs H q b ∧ r' = r
  | .mir b r, x, r' => ∃ c q, x = .ref c ∧ H c = some (.tup [.str "mirror", .ref q]) ∧ PrIs H q b ∧ r' = r
theorem First.tk {H H' : Hp} {r r' : Prog} {x : V} (h : First H r x r') (t : Tk H H') : First H' r x r' := by
  cases r with
  | nil => exact h.elim
  | step w n r => obtain ⟨c, e, h1, e2⟩ := h; exact ⟨c, e, t _ _ h1, e2⟩
  | turn k r => obtain ⟨c, e, h1, e2⟩ := h; exact ⟨c, e, t _ _ h1, e2⟩
  | rep k b r => obtain ⟨c, q, e, h1, h2, e2⟩ := h; exact ⟨c, q, e, t _ _ h1, h2.tk t, e2⟩
  | mir b r => obtain ⟨c, q, e, h1, h2, e2⟩ := h; exact ⟨c, q, e, t _ _ h1, h2.tk t, e2⟩
theorem PrAt.first {H : Hp} {r : Prog} {x : V} {ys : List V} (h : PrAt H r (x :: ys)) : ∃ r', First H r x r' ∧ PrAt H r' ys := by
  cases r with
  | nil => cases (show (x :: ys) = [] from h)
  | step w n r => obtain ⟨c, zs, e, h1, h2⟩ := h; cases e; exact ⟨r, ⟨c, rfl, h1, rfl⟩, h2⟩
  | turn k r => obtain ⟨c, zs, e, h1, h2⟩ := h; cases e; exact ⟨r, ⟨c, rfl, h1, rfl⟩, h2⟩
  | rep k b r => obtain ⟨c, q, zs, ws, e, h1, h2, h3, h4⟩ := h; cases e; exact ⟨r, ⟨c, q, rfl, h1, ⟨zs, h2, h3⟩, rfl⟩, h4⟩
  | mir b r => obtain ⟨c, q, zs, ws, e, h1, h2, h3, h4⟩ := h; cases e; exact ⟨r, ⟨c, q, rfl, h1, ⟨zs, h2, h3⟩, rfl⟩, h4⟩
theorem PrAt.cons {H : Hp} {r r' : Prog} {x : V} {ys : List V} (h : First H r x r') (k : PrAt H r' ys) : PrAt H r (x :: ys) := by
  cases r with
  | nil => exact h.elim
  | step w n r => obtain ⟨c, rfl, h1, rfl⟩ := h; exact ⟨c, ys, rfl, h1, k⟩
  | turn n r => obtain ⟨c, rfl, h1, rfl⟩ := h; exact ⟨c, ys, rfl, h1, k⟩
  | rep n b r => obtain ⟨c, q, rfl, h1, ⟨zs, h2, h3⟩, rfl⟩ := h; exact ⟨c, q, zs, ys, rfl, h1, h2, h3, k⟩
  | mir b r => obtain ⟨c, q, rfl, h1, ⟨zs, h2, h3⟩, rfl⟩ := h; exact ⟨c, q, zs, ys, rfl, h1, h2, h3, k⟩
theorem drop_cons {α : Type} {xs : List α} {i : Nat} {x : α} (h : xs[i]? = some x) : xs.drop i = x :: xs.drop (i + 1) := by
  obtain ⟨hi, e⟩ := List.getElem?_eq_some_iff.mp h
  rw [← e]
  exact List.drop_eq_getElem_cons hi
section
variable {σ : L2.St} {H : Hp} {K : PySem.W.Frag} {D : Ends} {tb : TS} {g : TG} {a : Addr} {xs : List V} {p : Prog}
/-- for command in program -/
theorem u_forPr (h : H a = some (.tup xs)) (hp : PrAt H p xs) (I : Prog → L2.St → Hp → Prop) (h0 : I p σ H) (hk : ∀ r σ H', I r σ H' → Tk H H')
    (hs : ∀ x r r' σ H', First H' r x r' → I r σ H' → g x σ H' fun σ2 H2 => tb { D with nx := I r', ct := I r', bk := D.nx } σ2 H2) (hd : ∀ σ H', I .nil σ H' → D.nx σ H') :
    ∃ b, V.ref a = .ref b ∧ (∃ xs, SqT K H b xs) ∧ ∃ W : Nat → Nat → L2.St → Hp → Prop, (∃ m, W 0 m σ H) ∧ ∀ i m σ H, W i m σ H →
      ((Itt K b).stop i H ∧ D.nx σ H) ∨ ((Itt K b).go i H ∧ ∃ N : L2.St → Hp → Prop, (∀ σ' H', N σ' H' → ∃ m', m' < m ∧ W (i + 1) m' σ' H') ∧ ∀ x H', (Itt K b).yld i H x H' → g x σ H' fun σ2 H2 => tb { D with nx := N, ct := N, bk := D.nx } σ2 H2) := by
  refine ⟨a, rfl, ⟨xs, .of h⟩, ⟨fun i m σ' H' => m = xs.length - i ∧ i ≤ xs.length ∧ ∃ r, PrAt H r (xs.drop i) ∧ I r σ' H', ⟨xs.length, by simp, Nat.zero_le _, p, hp, h0⟩, ?_⟩⟩
  rintro i m σ' H' ⟨rfl, hi, r, hr, ir⟩
  have hT : SqT K H' a xs := .of (hk _ _ _ ir _ _ h)
  by_cases hlt : i < xs.length
  · have hx : xs[i]? = some xs[i] := List.getElem?_eq_getElem hlt
    rw [drop_cons hx] at hr
    obtain ⟨r', f, hr'⟩ := hr.first
    refine .inr ⟨⟨xs, xs[i], hT, hx⟩, I r', fun σ2 H2 q => ⟨_, by omega, rfl, hlt, r', hr', q⟩, fun x H2 hy => ?_⟩
    obtain ⟨rfl, fx⟩ := hy
    have ex : x = xs[i] := Option.some.inj ((fx xs hT).symm.trans hx)
    subst ex
    exact hs _ r r' _ _ (f.tk (hk _ _ _ ir)) ir
  · have e : i = xs.length := by omega
    subst e
    rw [List.drop_length] at hr
    have hn : r = .nil := by
      cases r with
      | nil => rfl
      | step w n r => obtain ⟨c, zs, e, _⟩ := hr; cases e
      | turn k r => obtain ⟨c, zs, e, _⟩ := hr; cases e
      | rep k b r => obtain ⟨c, q, zs, ws, e, _⟩ := hr; cases e
      | mir b r => obtain ⟨c, q, zs, ws, e, _⟩ := hr; cases e
    subst hn
    exact .inl ⟨⟨xs, hT, Nat.le_refl _⟩, hd _ _ ir⟩
end
theorem cut_take (xs : List V) (n : Nat) : cutV xs none (some (n : Int)) = xs.take n := by
  unfold cutV
  rw [HT.sIx_none, HT.sIx_nat, List.drop_zero, Nat.sub_zero]
  by_cases h : n ≤ xs.length
  · rw [Nat.min_eq_left h]
  · rw [Nat.min_eq_right (by omega), List.take_length, List.take_of_length_le (by omega)]
/-! ### texts -/
section
variable {σ : L2.St} {H : Hp} {Q : VK} {K : PySem.W.Frag} {ta tb tc : TE} {p : Addr}
def rLenS (xs : List V) (H : Hp) (Q : VK) : Prop := ∃ z : Str, xs = [.str z] ∧ z.length ≤ sizeLine ∧ Q (.int z.length) H
theorem call_lenS {X : Cx} : CallR X (.builtin "len") rLenS := call_len_str
theorem r_lenS {z : Str} (l : z.length ≤ 100000) (q : Q (.int z.length) H) : rLenS [.str z] H Q := ⟨z, rfl, small_of l, q⟩
def rLeS : R2 := fun x y H Q => ∃ i j : Str, x = .str i ∧ y = .str j ∧ Q (.bl (!decide (j.cps.toList < i.cps.toList))) H
theorem op_leS {X : Cx} : OpR X (compareOp .LtE) rLeS := op_le_str
theorem r_leS {i j : Str} (q : Q (.bl (!decide (j.cps.toList < i.cps.toList))) H) : rLeS (.str i) (.str j) H Q := ⟨i, j, rfl, rfl, q⟩
theorem r_chain {r r' : R2} (q : ta σ H fun x H1 => tb σ H1 fun y H2 => r x y H2 fun z H3 => ∃ k, z = .bl k ∧ (if k = true then tc σ H3 fun w' H4 => r' y w' H4 Q else Q (.bl false) H3)) : tChain r r' ta tb tc σ H Q := q
theorem r_ixS {z : Str} {n : Int} {c : Nat} (l : z.length ≤ 100000) (e : atI z.cps.toList n = some c) (q : Q (.str ⟨#[c]⟩) H) : rIxS (.str z) (.int n) H Q := ⟨z, n, c, rfl, rfl, small_of l, e, q⟩
theorem r_all {bs : List Bool} (h : SqL K H p (bs.map V.bl)) (q : Q (.bl (bs.all id)) H) : rAll K [.ref p] H Q := ⟨p, bs, rfl, h, q⟩
theorem r_any {bs : List Bool} (h : SqL K H p (bs.map V.bl)) (q : Q (.bl (bs.any id)) H) : rAny K [.ref p] H Q := ⟨p, bs, rfl, h, q⟩
end
/-! ### tuples and lists of things that stand -/
section
variable {σ : L2.St} {H : Hp} {Q : VK} {K : PySem.W.Frag} {to te : TE} {p b : Addr} {xs ys : List V}
def rTupL (K : PySem.W.Frag) (vs : List V) (H : Hp) (Q : VK) : Prop := ∃ p ys, vs = [.ref p] ∧ SqL K H p ys ∧ ∀ l, H l = none → Q (.ref l) (upd H l (.tup ys))
theorem call_tupL {X : Cx} : CallR X (.type "tuple") (rTupL X.K) := fun pins s σ H xs us Q I r ⟨p, ys, e, h, q⟩ => call_tuple_of pins s σ H xs us Q I r ⟨p, ys, e, .inl ⟨h, q⟩⟩
theorem r_tupL (h : H p = some (.lst xs)) (q : ∀ l, H l = none → Q (.ref l) (upd H l (.tup xs))) : rTupL K [.ref p] H Q := ⟨p, xs, rfl, .of h, q⟩
theorem r_extend (h : H p = some (.lst xs)) (h' : H b = some (.lst ys)) (l : xs.length + ys.length ≤ 16000000) (q : Q .non (upd H p (.lst (xs ++ ys)))) : rExtend (.ref p) [.ref b] H Q := ⟨p, b, xs, ys, rfl, rfl, h, h', Nat.le_trans l (by decide), q⟩
def rListT (K : PySem.W.Frag) (vs : List V) (H : Hp) (Q : VK) : Prop := ∃ p ys, vs = [.ref p] ∧ (SqL K H p ys ∨ SqT K H p ys) ∧ ∀ l, H l = none → Q (.ref l) (upd H l (.lst ys))
theorem call_listT {X : Cx} : CallR X (.type "list") (rListT X.K) := call_list_of
theorem r_listL (h : H p = some (.lst xs)) (q : ∀ l, H l = none → Q (.ref l) (upd H l (.lst xs))) : rListT K [.ref p] H Q := ⟨p, xs, rfl, .inl (.of h), q⟩
theorem r_listT (h : H p = some (.tup xs)) (q : ∀ l, H l = none → Q (.ref l) (upd H l (.lst xs))) : rListT K [.ref p] H Q := ⟨p, xs, rfl, .inr (.of h), q⟩
theorem r_tM1 {r : V → List V → Hp → VK → Prop} (q : to σ H fun x H1 => (∃ a, x = .str a) ∧ te σ H1 fun y H2 => r x [y] H2 Q) : tM1 r to te σ H Q := q
theorem r_exS {z : Str} {A : Prop} (q : A) : (∃ a, V.str z = V.str a) ∧ A := ⟨⟨z, rfl⟩, q⟩
end
theorem name_len {n : Str} (h : IsName n) : n.length = 1 := by
  obtain ⟨c, rfl, _⟩ := h
  rfl
theorem one_lt {a b : Nat} (h : b ≤ a) : ¬ ([a] : List Nat) < [b] := by
  intro q
  have : a < b := by simpa [List.cons_lt_cons_iff] using q
  omega
theorem letter_a {n : Str} (h : IsName n) : ¬ n.cps.toList < (("a" : Str)).cps.toList := by
  obtain ⟨c, rfl, h1, _⟩ := h
  rw [show (("a" : Str)).cps.toList = [97] by decide +kernel]
  exact one_lt h1
theorem letter_z {n : Str} (h : IsName n) : ¬ (("z" : Str)).cps.toList < n.cps.toList := by
  obtain ⟨c, rfl, _, h2⟩ := h
  rw [show (("z" : Str)).cps.toList = [122] by decide +kernel]
  exact one_lt h2
theorem word_ne {w : Str} (h : IsWord w) : ¬ w = "repeat" ∧ ¬ w = "mirror" ∧ ¬ w = "turn" := by
  rcases h with rfl | rfl | rfl | rfl <;> decide +kernel
/-- six letters -/
def Names (z : Str) : Prop := z.cps.toList.length = 6 ∧ ∀ c ∈ z.cps.toList, 97 ≤ c ∧ c ≤ 122
theorem letter_at {n : Int} (h0 : 0 ≤ n) (h1 : n < 26) : ∃ c, atI (("abcdefghijklmnopqrstuvwxyz" : Str)).cps.toList n = some c ∧ 97 ≤ c ∧ c ≤ 122 := by
  have hl : (("abcdefghijklmnopqrstuvwxyz" : Str)).cps.toList.length = 26 := by decide +kernel
  have ha : ∀ c ∈ (("abcdefghijklmnopqrstuvwxyz" : Str)).cps.toList, 97 ≤ c ∧ c ≤ 122 := by decide +kernel
  have h2 : n.toNat < (("abcdefghijklmnopqrstuvwxyz" : Str)).cps.toList.length := by rw [hl]; omega
  refine ⟨_, ?_, ha _ (List.getElem_mem h2)⟩
  unfold atI ixN
  rw [if_pos h0, if_pos (by rw [hl]; omega)]
  exact List.getElem?_eq_getElem h2
/-- all but what stands at a and b -/
def But2 (a b : Addr) (H H' : Hp) : Prop := ∀ c o, c ≠ a → c ≠ b → H c = some o → H' c = some o
theorem But2.refl (a b : Addr) (H : Hp) : But2 a b H H := fun _ _ _ _ h => h
theorem But2.trans {a b : Addr} {H H1 H2 : Hp} (h : But2 a b H H1) (k : But2 a b H1 H2) : But2 a b H H2 := fun c o n m e => k c o n m (h c o n m e)
theorem But2.of {a b : Addr} {H H' : Hp} (h : But a H H') : But2 a b H H' := fun c o n _ e => h c o n e
theorem But2.at {a b c : Addr} {H H' : Hp} {o : HO} (h : But2 a b H H') (n : c ≠ a) (m : c ≠ b) (e : H c = some o) : H' c = some o := h c o n m e
theorem But2.new {a b p : Addr} {H H' : Hp} {o : HO} (h : But2 a b H H') (n : H' p = none) : But2 a b H (upd H' p o) := fun c u x y e => h_keep (h c u x y e) n
theorem But2.put {a b p : Addr} {H H' : Hp} {o : HO} (h : But2 a b H H') (n : H p = none) : But2 a b H (upd H' p o) := fun c u x y e => (upd_ne (ne_of_none e n)).trans (h c u x y e)
theorem But2.self {a b : Addr} {H H' : Hp} {o : HO} (h : But2 a b H H') : But2 a b H (upd H' b o) := fun c u x y e => (upd_ne y).trans (h c u x y e)
theorem But2.one {a b : Addr} {H H0 H' : Hp} (s : But a H H0) (n : H b = none) (h : But2 a b H0 H') : But a H H' := fun c o x e => h c o x (ne_of_none e n) (s c o x e)
theorem But2.free {a b p : Addr} {H H' : Hp} (h : But2 a b H H') (n : p ≠ a) (m : p ≠ b) (e : H' p = none) : H p = none := by
  cases q : H p with
  | none => rfl
  | some o => rw [h p o n m q] at e; cases e
theorem Bag.list {H : Hp} {a : Addr} (h : Bag H a) : ∃ l, H a = some (.lst l) ∧ l.length = 3 := by
  obtain ⟨x, y, z, e, _⟩ := h
  exact ⟨_, e, rfl⟩
theorem Bag.upd {H : Hp} {a p : Addr} {o : HO} (h : Bag H a) (n : a ≠ p) : Bag (upd H p o) a := by
  obtain ⟨x, y, z, e, r⟩ := h
  exact ⟨x, y, z, (upd_ne n).trans e, r⟩
/-- the greatest counts and turns -/
def BC : Int := 10 ^ 31
theorem mulW_of {a b : Int} (ha : a.natAbs < 2 ^ 100000) (hb : b.natAbs < 2 ^ 100000) : CMulW a b := by
  unfold CMulW
  have h : ∀ {n : Nat}, n < 2 ^ 100000 → n.log2 < 100000 := fun {n} hn => by
    by_cases h0 : n = 0
    · rw [h0]; decide
    · exact (Nat.log2_lt h0).mpr hn
  have := h ha
  have := h hb
  omega
end My

set_option Elab.async false
set_option linter.all false
set_option maxRecDepth 100000
namespace My
open PySem PySem.Spec PyProof.Rows L2
def topS (i : Nat) : Stmt := PySem.Challenge.pw_everyangle_k75_drawings.main.body.getD i (.Pass ⟨0, 0, 0, 0⟩)
abbrev s_is_integer : Stmt := topS 12
abbrev s_check_number : Stmt := topS 13
abbrev s_is_term : Stmt := topS 14
abbrev s_summed : Stmt := topS 15
abbrev s_Poly___init__ : Stmt := inClass (topS 16) 0
abbrev s_Poly_terms : Stmt := inClass (topS 16) 1
abbrev s_Poly_span : Stmt := inClass (topS 16) 2
abbrev s_Poly___len__ : Stmt := inClass (topS 16) 3
abbrev s_Poly___iter__ : Stmt := inClass (topS 16) 4
abbrev s_Poly___add__ : Stmt := inClass (topS 16) 6
abbrev s_Poly___mul__ : Stmt := inClass (topS 16) 10
abbrev s_Poly___neg__ : Stmt := inClass (topS 16) 12
abbrev s_Poly___lshift__ : Stmt := inClass (topS 16) 13
abbrev s_Poly___floordiv__ : Stmt := inClass (topS 16) 14
abbrev s_Poly_mirrored : Stmt := inClass (topS 16) 16
abbrev s_check_poly : Stmt := topS 17
abbrev s_as_poly : Stmt := topS 18
abbrev s_negative : Stmt := topS 19
abbrev s_product : Stmt := topS 20
abbrev s_check_divisor : Stmt := topS 21
abbrev s_division : Stmt := topS 22
abbrev s_is_order : Stmt := topS 24
abbrev s_check_order : Stmt := topS 25
abbrev s_primes_of : Stmt := topS 26
abbrev s_raw_ring : Stmt := topS 27
abbrev s_ring : Stmt := topS 28
abbrev s_is_name : Stmt := topS 30
abbrev s_check_name : Stmt := topS 31
abbrev s_raw_drawing : Stmt := topS 33
abbrev s_drawing : Stmt := topS 34
abbrev s_l_bag_of : Stmt := topS 36
abbrev s_l_pick : Stmt := topS 37
abbrev s_l_is_int : Stmt := topS 38
abbrev s_l_jar_of : Stmt := topS 39
abbrev s_l_terms_of : Stmt := topS 40
abbrev s_l_times : Stmt := topS 41
abbrev s_l_moved : Stmt := topS 42
abbrev s_l_is_poly : Stmt := topS 43
abbrev s_l_odd : Stmt := topS 44
abbrev s_l_primes : Stmt := topS 45
abbrev s_l_totient : Stmt := topS 46
abbrev s_l_ring_row : Stmt := topS 47
abbrev s_l_jar_row : Stmt := topS 48
abbrev s_l_ring_jar : Stmt := topS 49
abbrev s_l_same_piece : Stmt := topS 50
abbrev s_l_walked : Stmt := topS 51
abbrev s_l_is_piece : Stmt := topS 52
abbrev s_l_drawable : Stmt := topS 53
abbrev s_l_builds_codes : Stmt := topS 54
abbrev s_l_made : Stmt := topS 55
abbrev s_l_asked : Stmt := topS 56
abbrev s_l_drawn : Stmt := topS 57
abbrev s_l_others : Stmt := topS 58
abbrev s_law : Stmt := topS 59
theorem sc_is_integer : FnScope ["value"] ["value"] (defScope s_is_integer) := ⟨rfl, rfl, rfl, by decide +kernel, rfl, by decide +kernel, by decide +kernel⟩
theorem sc_check_number : FnScope ["value"] ["value"] (defScope s_check_number) := ⟨rfl, rfl, rfl, by decide +kernel, rfl, by decide +kernel, by decide +kernel⟩
theorem sc_is_term : FnScope ["value"] ["value"] (defScope s_is_term) := ⟨rfl, rfl, rfl, by decide +kernel, rfl, by decide +kernel, by decide +kernel⟩
theorem sc_summed : FnScope ["terms", "sums", "power", "number"] ["terms"] (defScope s_summed) := ⟨rfl, rfl, rfl, by decide +kernel, rfl, by decide +kernel, by decide +kernel⟩
theorem sc_Poly___init__ : FnScope ["self", "terms", "term"] ["self", "terms"] (defScope s_Poly___init__) := ⟨rfl, rfl, rfl, by decide +kernel, rfl, by decide +kernel, by decide +kernel⟩
theorem sc_Poly_terms : FnScope ["self"] ["self"] (defScope s_Poly_terms) := ⟨rfl, rfl, rfl, by decide +kernel, rfl, by decide +kernel, by decide +kernel⟩
theorem sc_Poly_span : FnScope ["self"] ["self"] (defScope s_Poly_span) := ⟨rfl, rfl, rfl, by decide +kernel, rfl, by decide +kernel, by decide +kernel⟩
theorem sc_Poly___len__ : FnScope ["self"] ["self"] (defScope s_Poly___len__) := ⟨rfl, rfl, rfl, by decide +kernel, rfl, by decide +kernel, by decide +kernel⟩
theorem sc_Poly___iter__ : FnScope ["self"] ["self"] (defScope s_Poly___iter__) := ⟨rfl, rfl, rfl, by decide +kernel, rfl, by decide +kernel, by decide +kernel⟩
theorem sc_Poly___add__ : FnScope ["self", "other"] ["self", "other"] (defScope s_Poly___add__) := ⟨rfl, rfl, rfl, by decide +kernel, rfl, by decide +kernel, by decide +kernel⟩
theorem sc_Poly___mul__ : FnScope ["self", "other"] ["self", "other"] (defScope s_Poly___mul__) := ⟨rfl, rfl, rfl, by decide +kernel, rfl, by decide +kernel, by decide +kernel⟩
theorem sc_Poly___neg__ : FnScope ["self"] ["self"] (defScope s_Poly___neg__) := ⟨rfl, rfl, rfl, by decide +kernel, rfl, by decide +kernel, by decide +kernel⟩
theorem sc_Poly___lshift__ : FnScope ["self", "number", "power", "factor"] ["self", "number"] (defScope s_Poly___lshift__) := ⟨rfl, rfl, rfl, by decide +kernel, rfl, by decide +kernel, by decide +kernel⟩
theorem sc_Poly___floordiv__ : FnScope ["self", "divisor"] ["self", "divisor"] (defScope s_Poly___floordiv__) := ⟨rfl, rfl, rfl, by decide +kernel, rfl, by decide +kernel, by decide +kernel⟩
theorem sc_Poly_mirrored : FnScope ["self", "power", "number"] ["self"] (defScope s_Poly_mirrored) := ⟨rfl, rfl, rfl, by decide +kernel, rfl, by decide +kernel, by decide +kernel⟩
theorem sc_check_poly : FnScope ["value"] ["value"] (defScope s_check_poly) := ⟨rfl, rfl, rfl, by decide +kernel, rfl, by decide +kernel, by decide +kernel⟩
theorem sc_as_poly : FnScope ["value"] ["value"] (defScope s_as_poly) := ⟨rfl, rfl, rfl, by decide +kernel, rfl, by decide +kernel, by decide +kernel⟩
theorem sc_negative : FnScope ["poly", "power", "number"] ["poly"] (defScope s_negative) := ⟨rfl, rfl, rfl, by decide +kernel, rfl, by decide +kernel, by decide +kernel⟩
theorem sc_product : FnScope ["one", "two", "power", "number", "other", "factor"] ["one", "two"] (defScope s_product) := ⟨rfl, rfl, rfl, by decide +kernel, rfl, by decide +kernel, by decide +kernel⟩
theorem sc_check_divisor : FnScope ["value", "rows"] ["value"] (defScope s_check_divisor) := ⟨rfl, rfl, rfl, by decide +kernel, rfl, by decide +kernel, by decide +kernel⟩
theorem sc_division : FnScope ["poly", "divisor", "rows", "width", "left", "power", "number", "terms", "ends", "shift", "factor", "other"] ["poly", "divisor"] (defScope s_division) := ⟨rfl, rfl, rfl, by decide +kernel, rfl, by decide +kernel, by decide +kernel⟩
theorem sc_is_order : FnScope ["value"] ["value"] (defScope s_is_order) := ⟨rfl, rfl, rfl, by decide +kernel, rfl, by decide +kernel, by decide +kernel⟩
theorem sc_check_order : FnScope ["value"] ["value"] (defScope s_check_order) := ⟨rfl, rfl, rfl, by decide +kernel, rfl, by decide +kernel, by decide +kernel⟩
theorem sc_primes_of : FnScope ["order", "primes", "left", "divisor"] ["order"] (defScope s_primes_of) := ⟨rfl, rfl, rfl, by decide +kernel, rfl, by decide +kernel, by decide +kernel⟩
theorem sc_raw_ring : FnScope ["order", "result", "wide", "prime", "power", "number"] ["order"] (defScope s_raw_ring) := ⟨rfl, rfl, rfl, by decide +kernel, rfl, by decide +kernel, by decide +kernel⟩
theorem sc_ring : FnScope ["order"] ["order"] (defScope s_ring) := ⟨rfl, rfl, rfl, by decide +kernel, rfl, by decide +kernel, by decide +kernel⟩
theorem sc_is_name : FnScope ["value"] ["value"] (defScope s_is_name) := ⟨rfl, rfl, rfl, by decide +kernel, rfl, by decide +kernel, by decide +kernel⟩
theorem sc_check_name : FnScope ["value"] ["value"] (defScope s_check_name) := ⟨rfl, rfl, rfl, by decide +kernel, rfl, by decide +kernel, by decide +kernel⟩
theorem sc_raw_drawing : FnScope ["poly", "name", "commands", "now", "power", "number"] ["poly", "name"] (defScope s_raw_drawing) := ⟨rfl, rfl, rfl, by decide +kernel, rfl, by decide +kernel, by decide +kernel⟩
theorem sc_drawing : FnScope ["poly", "name"] ["poly", "name"] (defScope s_drawing) := ⟨rfl, rfl, rfl, by decide +kernel, rfl, by decide +kernel, by decide +kernel⟩
theorem sc_l_bag_of : FnScope ["_law_cell"] ["_law_cell"] (defScope s_l_bag_of) := ⟨rfl, rfl, rfl, by decide +kernel, rfl, by decide +kernel, by decide +kernel⟩
theorem sc_l_pick : FnScope ["_law_bag", "_law_many", "_law_digit"] ["_law_bag", "_law_many"] (defScope s_l_pick) := ⟨rfl, rfl, rfl, by decide +kernel, rfl, by decide +kernel, by decide +kernel⟩
theorem sc_l_is_int : FnScope ["_law_thing"] ["_law_thing"] (defScope s_l_is_int) := ⟨rfl, rfl, rfl, by decide +kernel, rfl, by decide +kernel, by decide +kernel⟩
theorem sc_l_jar_of : FnScope ["_law_rows", "_law_jar", "_law_deg", "_law_coef"] ["_law_rows"] (defScope s_l_jar_of) := ⟨rfl, rfl, rfl, by decide +kernel, rfl, by decide +kernel, by decide +kernel⟩
theorem sc_l_terms_of : FnScope ["_law_jar", "_law_deg"] ["_law_jar"] (defScope s_l_terms_of) := ⟨rfl, rfl, rfl, by decide +kernel, rfl, by decide +kernel, by decide +kernel⟩
theorem sc_l_times : FnScope ["_law_one", "_law_two", "_law_jar", "_law_deg", "_law_far"] ["_law_one", "_law_two"] (defScope s_l_times) := ⟨rfl, rfl, rfl, by decide +kernel, rfl, by decide +kernel, by decide +kernel⟩
theorem sc_l_moved : FnScope ["_law_jar", "_law_shift", "_law_deg"] ["_law_jar", "_law_shift"] (defScope s_l_moved) := ⟨rfl, rfl, rfl, by decide +kernel, rfl, by decide +kernel, by decide +kernel⟩
theorem sc_l_is_poly : FnScope ["_law_found", "_law_jar", "_law_told", "_law_due", "_law_wide", "_law_row"] ["_law_found", "_law_jar"] (defScope s_l_is_poly) := ⟨rfl, rfl, rfl, by decide +kernel, rfl, by decide +kernel, by decide +kernel⟩
theorem sc_l_odd : FnScope ["_law_bag", "_law_odds", "_law_k"] ["_law_bag"] (defScope s_l_odd) := ⟨rfl, rfl, rfl, by decide +kernel, rfl, by decide +kernel, by decide +kernel⟩
theorem sc_l_primes : FnScope ["_law_cycle", "_law_found", "_law_rest", "_law_one"] ["_law_cycle"] (defScope s_l_primes) := ⟨rfl, rfl, rfl, by decide +kernel, rfl, by decide +kernel, by decide +kernel⟩
theorem sc_l_totient : FnScope ["_law_cycle", "_law_total", "_law_one"] ["_law_cycle"] (defScope s_l_totient) := ⟨rfl, rfl, rfl, by decide +kernel, rfl, by decide +kernel, by decide +kernel⟩
theorem sc_l_ring_row : FnScope ["_law_cycle", "_law_row", "_law_signs", "_law_one", "_law_wide", "_law_sign", "_law_at"] ["_law_cycle"] (defScope s_l_ring_row) := ⟨rfl, rfl, rfl, by decide +kernel, rfl, by decide +kernel, by decide +kernel⟩
theorem sc_l_jar_row : FnScope ["_law_row", "_law_at"] ["_law_row"] (defScope s_l_jar_row) := ⟨rfl, rfl, rfl, by decide +kernel, rfl, by decide +kernel, by decide +kernel⟩
theorem sc_l_ring_jar : FnScope ["_law_cycle"] ["_law_cycle"] (defScope s_l_ring_jar) := ⟨rfl, rfl, rfl, by decide +kernel, rfl, by decide +kernel, by decide +kernel⟩
theorem sc_l_same_piece : FnScope ["_law_found", "_law_due", "_law_k"] ["_law_found", "_law_due"] (defScope s_l_same_piece) := ⟨rfl, rfl, rfl, by decide +kernel, rfl, by decide +kernel, by decide +kernel⟩
theorem sc_l_walked : FnScope ["_law_row", "_law_now", "_law_spot", "_law_part", "_law_jar", "_law_who"] ["_law_row"] (defScope s_l_walked) := ⟨rfl, rfl, rfl, by decide +kernel, rfl, by decide +kernel, by decide +kernel⟩
theorem sc_l_is_piece : FnScope ["_law_thing", "_law_part"] ["_law_thing"] (defScope s_l_is_piece) := ⟨rfl, rfl, rfl, by decide +kernel, rfl, by decide +kernel, by decide +kernel⟩
theorem sc_l_drawable : FnScope ["_law_bag", "_law_jar", "_law_far", "_law_k", "_law_coef"] ["_law_bag"] (defScope s_l_drawable) := ⟨rfl, rfl, rfl, by decide +kernel, rfl, by decide +kernel, by decide +kernel⟩
theorem sc_l_builds_codes : FnScope ["_law_thing", "_law_truths"] ["_law_thing"] (defScope s_l_builds_codes) := ⟨rfl, rfl, rfl, by decide +kernel, rfl, by decide +kernel, by decide +kernel⟩
theorem sc_l_made : FnScope ["_law_bag", "_law_jar", "_law_rows", "_law_way", "_law_at", "_law_turned", "_law_deg", "_law_coef"] ["_law_bag", "_law_jar"] (defScope s_l_made) := ⟨rfl, rfl, rfl, by decide +kernel, rfl, by decide +kernel, by decide +kernel⟩
theorem sc_l_asked : FnScope ["_law_poly", "_law_who", "_law_caught", "_law_made_here", "e"] ["_law_poly", "_law_who"] (defScope s_l_asked) := ⟨rfl, rfl, rfl, by decide +kernel, rfl, by decide +kernel, by decide +kernel⟩
theorem sc_l_drawn : FnScope ["_law_poly", "_law_jar", "_law_who", "_law_told", "_law_due", "_law_part"] ["_law_poly", "_law_jar", "_law_who"] (defScope s_l_drawn) := ⟨rfl, rfl, rfl, by decide +kernel, rfl, by decide +kernel, by decide +kernel⟩
theorem sc_l_others : FnScope ["_law_bag", "_law_poly", "_law_jar", "_law_shift", "_law_some", "_law_first", "_law_second", "_law_cycle", "_law_k"] ["_law_bag", "_law_poly", "_law_jar"] (defScope s_l_others) := ⟨rfl, rfl, rfl, by decide +kernel, rfl, by decide +kernel, by decide +kernel⟩
theorem sc_law : FnScope ["_law_script", "_law_letters", "_law_great", "_law_cell", "_law_bag", "_law_jar", "_law_poly", "_law_who", "_law_told", "_law_one", "_law_due", "_law_alike", "_law_bad", "_law_wrong"] ["_law_script"] (defScope s_law) := ⟨rfl, rfl, rfl, by decide +kernel, rfl, by decide +kernel, by decide +kernel⟩
/-- the built-ins that the text calls by their names -/
structure Bl (mg : Str → Option Value) : Prop where
  b_isinstance : mg "isinstance" = none
  b_int : mg "int" = none
  b_bool : mg "bool" = none
  b_str : mg "str" = none
  b_tuple : mg "tuple" = none
  b_list : mg "list" = none
  b_len : mg "len" = none
  b_all : mg "all" = none
  b_range : mg "range" = none
  b_sum : mg "sum" = none
  b_max : mg "max" = none
  b_min : mg "min" = none
end My

set_option Elab.async false
set_option linter.all false
set_option maxRecDepth 100000
set_option maxHeartbeats 0
/-! the head: what is looked at behind the top, the run (printed by head.py) -/
namespace My
open PySem PySem.Spec PyProof.Rows L2
noncomputable section
def hdc0 (K : PySem.W.Frag) : List Bool := [
  He.eqO (PySem.W.nsIn K mainGlobals "Poly") (some (some (.ref (He.ga K "Poly")))),
  PySem.W.plainGet K (He.ga K "Poly") Str.empty,
  PySem.W.hasDictIn K (He.ga K "Poly"),
  PySem.W.plainOver K (He.ga K "Poly"),
  He.eqO (PySem.W.findIn K (.ref (He.ga K "Poly")) "__setattr__") (some (some (.builtin "object.__setattr__"))),
  PySem.W.makesIn K (He.ga K "Poly"),
  PySem.W.keepIn K (.ref (He.ga K "Poly")),
  He.eqO (PySem.W.findIn K (.ref (He.ga K "Poly")) "rows") (some none),
  PySem.W.selfFirst K (He.ga K "Poly"),
  clsC (PySem.W.clsIn K (He.ga K "Poly")) [.ref (He.ga K "Poly"), .type "object"],
  He.eqO (PySem.W.findIn K (.ref (He.ga K "Poly")) "__class__") (some (some (.builtin "object.__class__"))),
  He.eqO (PySem.W.specialIn K (.builtin "object.__class__") "__get__") (some (some (.builtin "getset_descriptor.__get__"))),
  decide (PySem.W.takesIn K (.builtin "object.__class__") = some true),
  decide (PySem.W.mroIn K (He.ga K "Poly") (.type "object") = some true),
  decide (PySem.W.typeIn K (.ref (He.ga K "Poly")) = some (.type "type")),
  decide (PySem.W.subIn K (.type "int") (.ref (He.ga K "Poly")) = some false),
  decide (PySem.W.subIn K (.type "bool") (.ref (He.ga K "Poly")) = some false),
  decide (PySem.W.subIn K (.type "str") (.ref (He.ga K "Poly")) = some false),
  decide (PySem.W.subIn K (.type "list") (.ref (He.ga K "Poly")) = some false),
  decide (PySem.W.subIn K (.type "tuple") (.ref (He.ga K "Poly")) = some false),
  decide (PySem.W.subIn K (.type "NoneType") (.ref (He.ga K "Poly")) = some false),
  decide (PySem.W.subIn K (.ref (He.ga K "Poly")) (.type "int") = some false),
  decide (PySem.W.subIn K (.ref (He.ga K "Poly")) (.type "bool") = some false),
  decide (PySem.W.subIn K (.ref (He.ga K "Poly")) (.type "list") = some false),
  decide (PySem.W.subIn K (.ref (He.ga K "Poly")) (.type "tuple") = some false),
  He.eqO (PySem.W.nsIn K mainGlobals "AngleError") (some (some (.ref (He.ga K "AngleError")))),
  PySem.W.excIn K (He.ga K "AngleError") [.type "ValueError", .type "Exception", .type "BaseException", .type "object"] "ValueError.__new__",
  PySem.W.keepIn K (.ref (He.ga K "AngleError")),
  decide (PySem.W.subIn K (.ref (He.ga K "AngleError")) (.type "BaseException") = some true),
  decide (PySem.W.typeIn K (.ref (He.ga K "AngleError")) = some (.type "type"))]
def hdc1 (K : PySem.W.Frag) : List Bool := [
  He.eqO (PySem.W.findIn K (.ref (He.ga K "AngleError")) "__getattribute__") (some (some (.builtin "BaseException.__getattribute__"))),
  He.eqO (PySem.W.findIn K (.ref (He.ga K "AngleError")) "__getattr__") (some none),
  PySem.W.hasDictIn K (He.ga K "AngleError"),
  He.eqO (PySem.W.findIn K (.ref (He.ga K "AngleError")) "__class__") (some (some (.builtin "object.__class__"))),
  He.eqO (PySem.W.specialIn K (.builtin "object.__class__") "__get__") (some (some (.builtin "getset_descriptor.__get__"))),
  decide (PySem.W.takesIn K (.builtin "object.__class__") = some true),
  decide (PySem.W.mroIn K (He.ga K "AngleError") (.type "object") = some true),
  (PySem.W.clsIn K (He.ga K "AngleError")).isSome,
  He.eqO (PySem.W.nsIn K mainGlobals "InvalidPoly") (some (some (.ref (He.ga K "InvalidPoly")))),
  PySem.W.excIn K (He.ga K "InvalidPoly") [.type "ValueError", .type "Exception", .type "BaseException", .type "object"] "ValueError.__new__",
  PySem.W.keepIn K (.ref (He.ga K "InvalidPoly")),
  decide (PySem.W.subIn K (.ref (He.ga K "InvalidPoly")) (.type "BaseException") = some true),
  decide (PySem.W.typeIn K (.ref (He.ga K "InvalidPoly")) = some (.type "type")),
  He.eqO (PySem.W.findIn K (.ref (He.ga K "InvalidPoly")) "__getattribute__") (some (some (.builtin "BaseException.__getattribute__"))),
  He.eqO (PySem.W.findIn K (.ref (He.ga K "InvalidPoly")) "__getattr__") (some none),
  PySem.W.hasDictIn K (He.ga K "InvalidPoly"),
  He.eqO (PySem.W.findIn K (.ref (He.ga K "InvalidPoly")) "__class__") (some (some (.builtin "object.__class__"))),
  He.eqO (PySem.W.specialIn K (.builtin "object.__class__") "__get__") (some (some (.builtin "getset_descriptor.__get__"))),
  decide (PySem.W.takesIn K (.builtin "object.__class__") = some true),
  decide (PySem.W.mroIn K (He.ga K "InvalidPoly") (.type "object") = some true),
  (PySem.W.clsIn K (He.ga K "InvalidPoly")).isSome,
  He.eqO (PySem.W.nsIn K mainGlobals "InvalidName") (some (some (.ref (He.ga K "InvalidName")))),
  PySem.W.excIn K (He.ga K "InvalidName") [.type "ValueError", .type "Exception", .type "BaseException", .type "object"] "ValueError.__new__",
  PySem.W.keepIn K (.ref (He.ga K "InvalidName")),
  decide (PySem.W.subIn K (.ref (He.ga K "InvalidName")) (.type "BaseException") = some true),
  decide (PySem.W.typeIn K (.ref (He.ga K "InvalidName")) = some (.type "type")),
  He.eqO (PySem.W.findIn K (.ref (He.ga K "InvalidName")) "__getattribute__") (some (some (.builtin "BaseException.__getattribute__"))),
  He.eqO (PySem.W.findIn K (.ref (He.ga K "InvalidName")) "__getattr__") (some none),
  PySem.W.hasDictIn K (He.ga K "InvalidName"),
  He.eqO (PySem.W.findIn K (.ref (He.ga K "InvalidName")) "__class__") (some (some (.builtin "object.__class__")))]
def hdc2 (K : PySem.W.Frag) : List Bool := [
  He.eqO (PySem.W.specialIn K (.builtin "object.__class__") "__get__") (some (some (.builtin "getset_descriptor.__get__"))),
  decide (PySem.W.takesIn K (.builtin "object.__class__") = some true),
  decide (PySem.W.mroIn K (He.ga K "InvalidName") (.type "object") = some true),
  (PySem.W.clsIn K (He.ga K "InvalidName")).isSome,
  He.eqO (PySem.W.nsIn K mainGlobals "InvalidOrders") (some (some (.ref (He.ga K "InvalidOrders")))),
  PySem.W.excIn K (He.ga K "InvalidOrders") [.type "ValueError", .type "Exception", .type "BaseException", .type "object"] "ValueError.__new__",
  PySem.W.keepIn K (.ref (He.ga K "InvalidOrders")),
  decide (PySem.W.subIn K (.ref (He.ga K "InvalidOrders")) (.type "BaseException") = some true),
  decide (PySem.W.typeIn K (.ref (He.ga K "InvalidOrders")) = some (.type "type")),
  He.eqO (PySem.W.findIn K (.ref (He.ga K "InvalidOrders")) "__getattribute__") (some (some (.builtin "BaseException.__getattribute__"))),
  He.eqO (PySem.W.findIn K (.ref (He.ga K "InvalidOrders")) "__getattr__") (some none),
  PySem.W.hasDictIn K (He.ga K "InvalidOrders"),
  He.eqO (PySem.W.findIn K (.ref (He.ga K "InvalidOrders")) "__class__") (some (some (.builtin "object.__class__"))),
  He.eqO (PySem.W.specialIn K (.builtin "object.__class__") "__get__") (some (some (.builtin "getset_descriptor.__get__"))),
  decide (PySem.W.takesIn K (.builtin "object.__class__") = some true),
  decide (PySem.W.mroIn K (He.ga K "InvalidOrders") (.type "object") = some true),
  (PySem.W.clsIn K (He.ga K "InvalidOrders")).isSome,
  He.eqO (PySem.W.nsIn K mainGlobals "NoProgram") (some (some (.ref (He.ga K "NoProgram")))),
  PySem.W.excIn K (He.ga K "NoProgram") [.type "ValueError", .type "Exception", .type "BaseException", .type "object"] "ValueError.__new__",
  PySem.W.keepIn K (.ref (He.ga K "NoProgram")),
  decide (PySem.W.subIn K (.ref (He.ga K "NoProgram")) (.type "BaseException") = some true),
  decide (PySem.W.typeIn K (.ref (He.ga K "NoProgram")) = some (.type "type")),
  He.eqO (PySem.W.findIn K (.ref (He.ga K "NoProgram")) "__getattribute__") (some (some (.builtin "BaseException.__getattribute__"))),
  He.eqO (PySem.W.findIn K (.ref (He.ga K "NoProgram")) "__getattr__") (some none),
  PySem.W.hasDictIn K (He.ga K "NoProgram"),
  He.eqO (PySem.W.findIn K (.ref (He.ga K "NoProgram")) "__class__") (some (some (.builtin "object.__class__"))),
  He.eqO (PySem.W.specialIn K (.builtin "object.__class__") "__get__") (some (some (.builtin "getset_descriptor.__get__"))),
  decide (PySem.W.takesIn K (.builtin "object.__class__") = some true),
  decide (PySem.W.mroIn K (He.ga K "NoProgram") (.type "object") = some true),
  (PySem.W.clsIn K (He.ga K "NoProgram")).isSome]
def hdc3 (K : PySem.W.Frag) : List Bool := [
  He.eqO (PySem.W.nsIn K mainGlobals "InvalidOrder") (some (some (.ref (He.ga K "InvalidOrder")))),
  PySem.W.excIn K (He.ga K "InvalidOrder") [.type "ValueError", .type "Exception", .type "BaseException", .type "object"] "ValueError.__new__",
  PySem.W.keepIn K (.ref (He.ga K "InvalidOrder")),
  decide (PySem.W.subIn K (.ref (He.ga K "InvalidOrder")) (.type "BaseException") = some true),
  decide (PySem.W.typeIn K (.ref (He.ga K "InvalidOrder")) = some (.type "type")),
  He.eqO (PySem.W.findIn K (.ref (He.ga K "InvalidOrder")) "__getattribute__") (some (some (.builtin "BaseException.__getattribute__"))),
  He.eqO (PySem.W.findIn K (.ref (He.ga K "InvalidOrder")) "__getattr__") (some none),
  PySem.W.hasDictIn K (He.ga K "InvalidOrder"),
  He.eqO (PySem.W.findIn K (.ref (He.ga K "InvalidOrder")) "__class__") (some (some (.builtin "object.__class__"))),
  He.eqO (PySem.W.specialIn K (.builtin "object.__class__") "__get__") (some (some (.builtin "getset_descriptor.__get__"))),
  decide (PySem.W.takesIn K (.builtin "object.__class__") = some true),
  decide (PySem.W.mroIn K (He.ga K "InvalidOrder") (.type "object") = some true),
  (PySem.W.clsIn K (He.ga K "InvalidOrder")).isSome,
  He.eqO (PySem.W.nsIn K mainGlobals "InvalidNumber") (some (some (.ref (He.ga K "InvalidNumber")))),
  PySem.W.excIn K (He.ga K "InvalidNumber") [.type "ValueError", .type "Exception", .type "BaseException", .type "object"] "ValueError.__new__",
  PySem.W.keepIn K (.ref (He.ga K "InvalidNumber")),
  decide (PySem.W.subIn K (.ref (He.ga K "InvalidNumber")) (.type "BaseException") = some true),
  decide (PySem.W.typeIn K (.ref (He.ga K "InvalidNumber")) = some (.type "type")),
  He.eqO (PySem.W.findIn K (.ref (He.ga K "InvalidNumber")) "__getattribute__") (some (some (.builtin "BaseException.__getattribute__"))),
  He.eqO (PySem.W.findIn K (.ref (He.ga K "InvalidNumber")) "__getattr__") (some none),
  PySem.W.hasDictIn K (He.ga K "InvalidNumber"),
  He.eqO (PySem.W.findIn K (.ref (He.ga K "InvalidNumber")) "__class__") (some (some (.builtin "object.__class__"))),
  He.eqO (PySem.W.specialIn K (.builtin "object.__class__") "__get__") (some (some (.builtin "getset_descriptor.__get__"))),
  decide (PySem.W.takesIn K (.builtin "object.__class__") = some true),
  decide (PySem.W.mroIn K (He.ga K "InvalidNumber") (.type "object") = some true),
  (PySem.W.clsIn K (He.ga K "InvalidNumber")).isSome,
  He.eqO (PySem.W.nsIn K mainGlobals "InvalidProgram") (some (some (.ref (He.ga K "InvalidProgram")))),
  PySem.W.excIn K (He.ga K "InvalidProgram") [.type "ValueError", .type "Exception", .type "BaseException", .type "object"] "ValueError.__new__",
  PySem.W.keepIn K (.ref (He.ga K "InvalidProgram")),
  decide (PySem.W.subIn K (.ref (He.ga K "InvalidProgram")) (.type "BaseException") = some true)]
def hdc4 (K : PySem.W.Frag) : List Bool := [
  decide (PySem.W.typeIn K (.ref (He.ga K "InvalidProgram")) = some (.type "type")),
  He.eqO (PySem.W.findIn K (.ref (He.ga K "InvalidProgram")) "__getattribute__") (some (some (.builtin "BaseException.__getattribute__"))),
  He.eqO (PySem.W.findIn K (.ref (He.ga K "InvalidProgram")) "__getattr__") (some none),
  PySem.W.hasDictIn K (He.ga K "InvalidProgram"),
  He.eqO (PySem.W.findIn K (.ref (He.ga K "InvalidProgram")) "__class__") (some (some (.builtin "object.__class__"))),
  He.eqO (PySem.W.specialIn K (.builtin "object.__class__") "__get__") (some (some (.builtin "getset_descriptor.__get__"))),
  decide (PySem.W.takesIn K (.builtin "object.__class__") = some true),
  decide (PySem.W.mroIn K (He.ga K "InvalidProgram") (.type "object") = some true),
  (PySem.W.clsIn K (He.ga K "InvalidProgram")).isSome,
  decide (PySem.W.subIn K (.ref (He.ga K "InvalidPoly")) (.ref (He.ga K "AngleError")) = some true),
  decide (PySem.W.subIn K (.ref (He.ga K "InvalidName")) (.ref (He.ga K "AngleError")) = some true),
  decide (PySem.W.subIn K (.ref (He.ga K "InvalidPoly")) (.type "ValueError") = some true),
  decide (PySem.W.subIn K (.ref (He.ga K "InvalidName")) (.type "ValueError") = some true),
  decide (PySem.W.subIn K (.ref (He.ga K "InvalidPoly")) (.ref (He.ga K "InvalidName")) = some false),
  decide ((Value.ref (He.ga K "InvalidPoly") == Value.ref (He.ga K "InvalidName")) = false),
  decide (PySem.W.subIn K (.ref (He.ga K "InvalidPoly")) (.ref (He.ga K "InvalidOrders")) = some false),
  decide ((Value.ref (He.ga K "InvalidPoly") == Value.ref (He.ga K "InvalidOrders")) = false),
  decide (PySem.W.subIn K (.ref (He.ga K "InvalidPoly")) (.ref (He.ga K "NoProgram")) = some false),
  decide ((Value.ref (He.ga K "InvalidPoly") == Value.ref (He.ga K "NoProgram")) = false),
  decide (PySem.W.subIn K (.ref (He.ga K "InvalidPoly")) (.ref (He.ga K "InvalidOrder")) = some false),
  decide ((Value.ref (He.ga K "InvalidPoly") == Value.ref (He.ga K "InvalidOrder")) = false),
  decide (PySem.W.subIn K (.ref (He.ga K "InvalidPoly")) (.ref (He.ga K "InvalidNumber")) = some false),
  decide ((Value.ref (He.ga K "InvalidPoly") == Value.ref (He.ga K "InvalidNumber")) = false),
  decide (PySem.W.subIn K (.ref (He.ga K "InvalidPoly")) (.ref (He.ga K "InvalidProgram")) = some false),
  decide ((Value.ref (He.ga K "InvalidPoly") == Value.ref (He.ga K "InvalidProgram")) = false),
  decide (PySem.W.subIn K (.ref (He.ga K "InvalidName")) (.ref (He.ga K "InvalidPoly")) = some false),
  decide ((Value.ref (He.ga K "InvalidName") == Value.ref (He.ga K "InvalidPoly")) = false),
  decide (PySem.W.subIn K (.ref (He.ga K "InvalidName")) (.ref (He.ga K "InvalidOrders")) = some false),
  decide ((Value.ref (He.ga K "InvalidName") == Value.ref (He.ga K "InvalidOrders")) = false),
  decide (PySem.W.subIn K (.ref (He.ga K "InvalidName")) (.ref (He.ga K "NoProgram")) = some false)]
def hdc5 (K : PySem.W.Frag) : List Bool := [
  decide ((Value.ref (He.ga K "InvalidName") == Value.ref (He.ga K "NoProgram")) = false),
  decide (PySem.W.subIn K (.ref (He.ga K "InvalidName")) (.ref (He.ga K "InvalidOrder")) = some false),
  decide ((Value.ref (He.ga K "InvalidName") == Value.ref (He.ga K "InvalidOrder")) = false),
  decide (PySem.W.subIn K (.ref (He.ga K "InvalidName")) (.ref (He.ga K "InvalidNumber")) = some false),
  decide ((Value.ref (He.ga K "InvalidName") == Value.ref (He.ga K "InvalidNumber")) = false),
  decide (PySem.W.subIn K (.ref (He.ga K "InvalidName")) (.ref (He.ga K "InvalidProgram")) = some false),
  decide ((Value.ref (He.ga K "InvalidName") == Value.ref (He.ga K "InvalidProgram")) = false),
  decide (PySem.W.subIn K (.ref (He.ga K "InvalidName")) (.type "str") = some false),
  decide (PySem.W.subIn K (.ref (He.ga K "InvalidPoly")) (.ref (He.ga K "Poly")) = some false),
  decide ((Value.ref (He.ga K "InvalidPoly") == Value.ref (He.ga K "Poly")) = false),
  He.eqO (PySem.W.nsIn K mainGlobals "_law_bag_of") (some (some (.ref (He.ga K "_law_bag_of")))),
  fnC K (He.ga K "_law_bag_of") "_law_bag_of" .none,
  PySem.W.keepIn K (.ref (He.ga K "_law_bag_of")),
  He.eqO (PySem.W.nsIn K mainGlobals "_law_pick") (some (some (.ref (He.ga K "_law_pick")))),
  fnC K (He.ga K "_law_pick") "_law_pick" .none,
  PySem.W.keepIn K (.ref (He.ga K "_law_pick")),
  He.eqO (PySem.W.nsIn K mainGlobals "_law_drawable") (some (some (.ref (He.ga K "_law_drawable")))),
  fnC K (He.ga K "_law_drawable") "_law_drawable" .none,
  PySem.W.keepIn K (.ref (He.ga K "_law_drawable")),
  He.eqO (PySem.W.nsIn K mainGlobals "is_integer") (some (some (.ref (He.ga K "is_integer")))),
  fnC K (He.ga K "is_integer") "is_integer" .none,
  PySem.W.keepIn K (.ref (He.ga K "is_integer")),
  He.eqO (PySem.W.nsIn K mainGlobals "is_term") (some (some (.ref (He.ga K "is_term")))),
  fnC K (He.ga K "is_term") "is_term" .none,
  PySem.W.keepIn K (.ref (He.ga K "is_term")),
  He.eqO (PySem.W.nsIn K mainGlobals "summed") (some (some (.ref (He.ga K "summed")))),
  fnC K (He.ga K "summed") "summed" .none,
  PySem.W.keepIn K (.ref (He.ga K "summed")),
  He.eqO (PySem.W.findIn K (.ref (He.ga K "Poly")) "__init__") (some (some (.ref (He.ma K (He.ga K "Poly") "__init__")))),
  PySem.W.isFn K (.ref (He.ma K (He.ga K "Poly") "__init__"))]
def hdc6 (K : PySem.W.Frag) : List Bool := [
  fnC K (He.ma K (He.ga K "Poly") "__init__") "Poly.__init__" .none,
  PySem.W.keepIn K (.ref (He.ma K (He.ga K "Poly") "__init__")),
  He.eqO (PySem.W.nsIn K mainGlobals "_law_terms_of") (some (some (.ref (He.ga K "_law_terms_of")))),
  fnC K (He.ga K "_law_terms_of") "_law_terms_of" .none,
  PySem.W.keepIn K (.ref (He.ga K "_law_terms_of")),
  He.eqO (PySem.W.nsIn K mainGlobals "check_poly") (some (some (.ref (He.ga K "check_poly")))),
  fnC K (He.ga K "check_poly") "check_poly" .none,
  PySem.W.keepIn K (.ref (He.ga K "check_poly")),
  He.eqO (PySem.W.nsIn K mainGlobals "as_poly") (some (some (.ref (He.ga K "as_poly")))),
  fnC K (He.ga K "as_poly") "as_poly" .none,
  PySem.W.keepIn K (.ref (He.ga K "as_poly")),
  He.eqO (PySem.W.findIn K (.ref (He.ga K "Poly")) "__add__") (some (some (.ref (He.ma K (He.ga K "Poly") "__add__")))),
  PySem.W.isFn K (.ref (He.ma K (He.ga K "Poly") "__add__")),
  fnC K (He.ma K (He.ga K "Poly") "__add__") "Poly.__add__" .none,
  PySem.W.keepIn K (.ref (He.ma K (He.ga K "Poly") "__add__")),
  He.eqO (PySem.W.nsIn K mainGlobals "negative") (some (some (.ref (He.ga K "negative")))),
  fnC K (He.ga K "negative") "negative" .none,
  PySem.W.keepIn K (.ref (He.ga K "negative")),
  He.eqO (PySem.W.findIn K (.ref (He.ga K "Poly")) "__neg__") (some (some (.ref (He.ma K (He.ga K "Poly") "__neg__")))),
  PySem.W.isFn K (.ref (He.ma K (He.ga K "Poly") "__neg__")),
  fnC K (He.ma K (He.ga K "Poly") "__neg__") "Poly.__neg__" .none,
  PySem.W.keepIn K (.ref (He.ma K (He.ga K "Poly") "__neg__")),
  He.eqO (PySem.W.findIn K (.ref (He.ga K "Poly")) "mirrored") (some (some (.ref (He.ma K (He.ga K "Poly") "mirrored")))),
  PySem.W.isFn K (.ref (He.ma K (He.ga K "Poly") "mirrored")),
  fnC K (He.ma K (He.ga K "Poly") "mirrored") "Poly.mirrored" .none,
  PySem.W.keepIn K (.ref (He.ma K (He.ga K "Poly") "mirrored")),
  He.eqO (PySem.W.nsIn K mainGlobals "_law_made") (some (some (.ref (He.ga K "_law_made")))),
  fnC K (He.ga K "_law_made") "_law_made" .none,
  PySem.W.keepIn K (.ref (He.ga K "_law_made")),
  He.eqO (PySem.W.nsIn K mainGlobals "is_name") (some (some (.ref (He.ga K "is_name"))))]
def hdc7 (K : PySem.W.Frag) : List Bool := [
  fnC K (He.ga K "is_name") "is_name" .none,
  PySem.W.keepIn K (.ref (He.ga K "is_name")),
  He.eqO (PySem.W.nsIn K mainGlobals "check_name") (some (some (.ref (He.ga K "check_name")))),
  fnC K (He.ga K "check_name") "check_name" .none,
  PySem.W.keepIn K (.ref (He.ga K "check_name")),
  He.eqO (PySem.W.findIn K (.ref (He.ga K "Poly")) "__iter__") (some (some (.ref (He.ma K (He.ga K "Poly") "__iter__")))),
  PySem.W.isFn K (.ref (He.ma K (He.ga K "Poly") "__iter__")),
  fnC K (He.ma K (He.ga K "Poly") "__iter__") "Poly.__iter__" .none,
  PySem.W.keepIn K (.ref (He.ma K (He.ga K "Poly") "__iter__")),
  He.eqO (PySem.W.nsIn K mainGlobals "raw_drawing") (some (some (.ref (He.ga K "raw_drawing")))),
  fnC K (He.ga K "raw_drawing") "raw_drawing" .none,
  PySem.W.keepIn K (.ref (He.ga K "raw_drawing")),
  He.eqO (PySem.W.nsIn K mainGlobals "drawing") (some (some (.ref (He.ga K "drawing")))),
  fnC K (He.ga K "drawing") "drawing" .none,
  PySem.W.keepIn K (.ref (He.ga K "drawing")),
  He.eqO (PySem.W.nsIn K mainGlobals "_law_is_int") (some (some (.ref (He.ga K "_law_is_int")))),
  fnC K (He.ga K "_law_is_int") "_law_is_int" .none,
  PySem.W.keepIn K (.ref (He.ga K "_law_is_int")),
  He.eqO (PySem.W.nsIn K mainGlobals "_law_is_piece") (some (some (.ref (He.ga K "_law_is_piece")))),
  fnC K (He.ga K "_law_is_piece") "_law_is_piece" .none,
  PySem.W.keepIn K (.ref (He.ga K "_law_is_piece")),
  He.eqO (PySem.W.nsIn K mainGlobals "_law_walked") (some (some (.ref (He.ga K "_law_walked")))),
  fnC K (He.ga K "_law_walked") "_law_walked" .none,
  PySem.W.keepIn K (.ref (He.ga K "_law_walked")),
  He.eqO (PySem.W.nsIn K mainGlobals "_law_same_piece") (some (some (.ref (He.ga K "_law_same_piece")))),
  fnC K (He.ga K "_law_same_piece") "_law_same_piece" .none,
  PySem.W.keepIn K (.ref (He.ga K "_law_same_piece")),
  He.eqO (PySem.W.nsIn K mainGlobals "_law_drawn") (some (some (.ref (He.ga K "_law_drawn")))),
  fnC K (He.ga K "_law_drawn") "_law_drawn" .none,
  PySem.W.keepIn K (.ref (He.ga K "_law_drawn"))]
def hdc8 (K : PySem.W.Frag) : List Bool := [
  He.eqO (PySem.W.nsIn K mainGlobals "_law_jar_of") (some (some (.ref (He.ga K "_law_jar_of")))),
  fnC K (He.ga K "_law_jar_of") "_law_jar_of" .none,
  PySem.W.keepIn K (.ref (He.ga K "_law_jar_of")),
  He.eqO (PySem.W.nsIn K mainGlobals "_law_moved") (some (some (.ref (He.ga K "_law_moved")))),
  fnC K (He.ga K "_law_moved") "_law_moved" .none,
  PySem.W.keepIn K (.ref (He.ga K "_law_moved")),
  He.eqO (PySem.W.nsIn K mainGlobals "_law_times") (some (some (.ref (He.ga K "_law_times")))),
  fnC K (He.ga K "_law_times") "_law_times" .none,
  PySem.W.keepIn K (.ref (He.ga K "_law_times")),
  He.eqO (PySem.W.nsIn K mainGlobals "is_order") (some (some (.ref (He.ga K "is_order")))),
  fnC K (He.ga K "is_order") "is_order" .none,
  PySem.W.keepIn K (.ref (He.ga K "is_order")),
  He.eqO (PySem.W.nsIn K mainGlobals "check_order") (some (some (.ref (He.ga K "check_order")))),
  fnC K (He.ga K "check_order") "check_order" .none,
  PySem.W.keepIn K (.ref (He.ga K "check_order")),
  He.eqO (PySem.W.nsIn K mainGlobals "primes_of") (some (some (.ref (He.ga K "primes_of")))),
  fnC K (He.ga K "primes_of") "primes_of" .none,
  PySem.W.keepIn K (.ref (He.ga K "primes_of")),
  He.eqO (PySem.W.nsIn K mainGlobals "check_divisor") (some (some (.ref (He.ga K "check_divisor")))),
  fnC K (He.ga K "check_divisor") "check_divisor" .none,
  PySem.W.keepIn K (.ref (He.ga K "check_divisor")),
  He.eqO (PySem.W.findIn K (.ref (He.ga K "Poly")) "span") (some (some (.ref (He.ma K (He.ga K "Poly") "span")))),
  He.eqO (PySem.W.specialIn K (.ref (He.ma K (He.ga K "Poly") "span")) "__get__") (some (some (.builtin "property.__get__"))),
  decide (PySem.W.takesIn K (.ref (He.ma K (He.ga K "Poly") "span")) = some true),
  prC K (He.ma K (He.ga K "Poly") "span"),
  fnC K (prF K (He.ma K (He.ga K "Poly") "span")) "Poly.span" .none,
  PySem.W.keepIn K (.ref (prF K (He.ma K (He.ga K "Poly") "span"))),
  He.eqO (PySem.W.nsIn K mainGlobals "division") (some (some (.ref (He.ga K "division")))),
  fnC K (He.ga K "division") "division" .none,
  PySem.W.keepIn K (.ref (He.ga K "division"))]
def hdc9 (K : PySem.W.Frag) : List Bool := [
  He.eqO (PySem.W.findIn K (.ref (He.ga K "Poly")) "__floordiv__") (some (some (.ref (He.ma K (He.ga K "Poly") "__floordiv__")))),
  PySem.W.isFn K (.ref (He.ma K (He.ga K "Poly") "__floordiv__")),
  fnC K (He.ma K (He.ga K "Poly") "__floordiv__") "Poly.__floordiv__" .none,
  PySem.W.keepIn K (.ref (He.ma K (He.ga K "Poly") "__floordiv__")),
  He.eqO (PySem.W.nsIn K mainGlobals "raw_ring") (some (some (.ref (He.ga K "raw_ring")))),
  fnC K (He.ga K "raw_ring") "raw_ring" .none,
  PySem.W.keepIn K (.ref (He.ga K "raw_ring")),
  He.eqO (PySem.W.nsIn K mainGlobals "ring") (some (some (.ref (He.ga K "ring")))),
  fnC K (He.ga K "ring") "ring" .none,
  PySem.W.keepIn K (.ref (He.ga K "ring")),
  He.eqO (PySem.W.nsIn K mainGlobals "_law_primes") (some (some (.ref (He.ga K "_law_primes")))),
  fnC K (He.ga K "_law_primes") "_law_primes" .none,
  PySem.W.keepIn K (.ref (He.ga K "_law_primes")),
  He.eqO (PySem.W.nsIn K mainGlobals "_law_totient") (some (some (.ref (He.ga K "_law_totient")))),
  fnC K (He.ga K "_law_totient") "_law_totient" .none,
  PySem.W.keepIn K (.ref (He.ga K "_law_totient")),
  He.eqO (PySem.W.nsIn K mainGlobals "_law_ring_row") (some (some (.ref (He.ga K "_law_ring_row")))),
  fnC K (He.ga K "_law_ring_row") "_law_ring_row" .none,
  PySem.W.keepIn K (.ref (He.ga K "_law_ring_row")),
  He.eqO (PySem.W.nsIn K mainGlobals "_law_jar_row") (some (some (.ref (He.ga K "_law_jar_row")))),
  fnC K (He.ga K "_law_jar_row") "_law_jar_row" .none,
  PySem.W.keepIn K (.ref (He.ga K "_law_jar_row")),
  He.eqO (PySem.W.nsIn K mainGlobals "_law_ring_jar") (some (some (.ref (He.ga K "_law_ring_jar")))),
  fnC K (He.ga K "_law_ring_jar") "_law_ring_jar" .none,
  PySem.W.keepIn K (.ref (He.ga K "_law_ring_jar")),
  He.eqO (PySem.W.nsIn K mainGlobals "check_number") (some (some (.ref (He.ga K "check_number")))),
  fnC K (He.ga K "check_number") "check_number" .none,
  PySem.W.keepIn K (.ref (He.ga K "check_number")),
  He.eqO (PySem.W.findIn K (.ref (He.ga K "Poly")) "__lshift__") (some (some (.ref (He.ma K (He.ga K "Poly") "__lshift__")))),
  PySem.W.isFn K (.ref (He.ma K (He.ga K "Poly") "__lshift__"))]
def hdc10 (K : PySem.W.Frag) : List Bool := [
  fnC K (He.ma K (He.ga K "Poly") "__lshift__") "Poly.__lshift__" .none,
  PySem.W.keepIn K (.ref (He.ma K (He.ga K "Poly") "__lshift__")),
  He.eqO (PySem.W.nsIn K mainGlobals "product") (some (some (.ref (He.ga K "product")))),
  fnC K (He.ga K "product") "product" .none,
  PySem.W.keepIn K (.ref (He.ga K "product")),
  He.eqO (PySem.W.findIn K (.ref (He.ga K "Poly")) "__mul__") (some (some (.ref (He.ma K (He.ga K "Poly") "__mul__")))),
  PySem.W.isFn K (.ref (He.ma K (He.ga K "Poly") "__mul__")),
  fnC K (He.ma K (He.ga K "Poly") "__mul__") "Poly.__mul__" .none,
  PySem.W.keepIn K (.ref (He.ma K (He.ga K "Poly") "__mul__")),
  He.eqO (PySem.W.nsIn K mainGlobals "_law_others") (some (some (.ref (He.ga K "_law_others")))),
  fnC K (He.ga K "_law_others") "_law_others" .none,
  PySem.W.keepIn K (.ref (He.ga K "_law_others")),
  He.eqO (PySem.W.nsIn K mainGlobals "_law_odd") (some (some (.ref (He.ga K "_law_odd")))),
  fnC K (He.ga K "_law_odd") "_law_odd" .none,
  PySem.W.keepIn K (.ref (He.ga K "_law_odd")),
  He.eqO (PySem.W.nsIn K mainGlobals "_law_builds_codes") (some (some (.ref (He.ga K "_law_builds_codes")))),
  fnC K (He.ga K "_law_builds_codes") "_law_builds_codes" .none,
  PySem.W.keepIn K (.ref (He.ga K "_law_builds_codes")),
  He.eqO (PySem.W.nsIn K mainGlobals "_law_asked") (some (some (.ref (He.ga K "_law_asked")))),
  fnC K (He.ga K "_law_asked") "_law_asked" .none,
  PySem.W.keepIn K (.ref (He.ga K "_law_asked")),
  He.eqO (PySem.W.findIn K (.ref (He.ga K "Poly")) "terms") (some (some (.ref (He.ma K (He.ga K "Poly") "terms")))),
  He.eqO (PySem.W.specialIn K (.ref (He.ma K (He.ga K "Poly") "terms")) "__get__") (some (some (.builtin "property.__get__"))),
  decide (PySem.W.takesIn K (.ref (He.ma K (He.ga K "Poly") "terms")) = some true),
  prC K (He.ma K (He.ga K "Poly") "terms"),
  fnC K (prF K (He.ma K (He.ga K "Poly") "terms")) "Poly.terms" .none,
  PySem.W.keepIn K (.ref (prF K (He.ma K (He.ga K "Poly") "terms"))),
  He.eqO (PySem.W.findIn K (.ref (He.ga K "Poly")) "__len__") (some (some (.ref (He.ma K (He.ga K "Poly") "__len__")))),
  PySem.W.isFn K (.ref (He.ma K (He.ga K "Poly") "__len__")),
  fnC K (He.ma K (He.ga K "Poly") "__len__") "Poly.__len__" .none]
def hdc11 (K : PySem.W.Frag) : List Bool := [
  PySem.W.keepIn K (.ref (He.ma K (He.ga K "Poly") "__len__")),
  He.eqO (PySem.W.nsIn K mainGlobals "_law_is_poly") (some (some (.ref (He.ga K "_law_is_poly")))),
  fnC K (He.ga K "_law_is_poly") "_law_is_poly" .none,
  PySem.W.keepIn K (.ref (He.ga K "_law_is_poly")),
  He.eqO (PySem.W.nsIn K mainGlobals "law") (some (some (.ref (He.ga K "law")))),
  fnC K (He.ga K "law") "law" .none,
  PySem.W.keepIn K (.ref (He.ga K "law")),
  He.eqO (PySem.W.nsIn K mainGlobals "ValueError") (some none),
  He.eqO (PySem.W.nsIn K mainGlobals "abs") (some none),
  He.eqO (PySem.W.nsIn K mainGlobals "all") (some none),
  He.eqO (PySem.W.nsIn K mainGlobals "any") (some none),
  He.eqO (PySem.W.nsIn K mainGlobals "bool") (some none),
  He.eqO (PySem.W.nsIn K mainGlobals "int") (some none),
  He.eqO (PySem.W.nsIn K mainGlobals "isinstance") (some none),
  He.eqO (PySem.W.nsIn K mainGlobals "iter") (some none),
  He.eqO (PySem.W.nsIn K mainGlobals "len") (some none),
  He.eqO (PySem.W.nsIn K mainGlobals "list") (some none),
  He.eqO (PySem.W.nsIn K mainGlobals "max") (some none),
  He.eqO (PySem.W.nsIn K mainGlobals "min") (some none),
  He.eqO (PySem.W.nsIn K mainGlobals "range") (some none),
  He.eqO (PySem.W.nsIn K mainGlobals "sorted") (some none),
  He.eqO (PySem.W.nsIn K mainGlobals "str") (some none),
  He.eqO (PySem.W.nsIn K mainGlobals "sum") (some none),
  He.eqO (PySem.W.nsIn K mainGlobals "tuple") (some none),
  He.eqO (PySem.W.findIn K (.ref (He.ga K "Poly")) (dunderR "lshift")) (some none),
  (PySem.W.findIn K (.type "int") (PySem.dunder "lshift")).isSome,
  (PySem.W.findIn K (.type "int") (dunderR "lshift")).isSome]
def hdf0 (K : PySem.W.Frag) : List He.FnW := [fnE K (He.ga K "_law_bag_of"), fnE K (He.ga K "_law_pick"), fnE K (He.ga K "_law_drawable"), fnE K (He.ga K "is_integer"), fnE K (He.ga K "is_term"), fnE K (He.ga K "summed"), fnE K (He.ma K (He.ga K "Poly") "__init__"), fnE K (He.ga K "_law_terms_of"), fnE K (He.ga K "check_poly"), fnE K (He.ga K "as_poly"), fnE K (He.ma K (He.ga K "Poly") "__add__"), fnE K (He.ga K "negative"), fnE K (He.ma K (He.ga K "Poly") "__neg__"), fnE K (He.ma K (He.ga K "Poly") "mirrored"), fnE K (He.ga K "_law_made"), fnE K (He.ga K "is_name"), fnE K (He.ga K "check_name"), fnE K (He.ma K (He.ga K "Poly") "__iter__"), fnE K (He.ga K "raw_drawing"), fnE K (He.ga K "drawing"), fnE K (He.ga K "_law_is_int"), fnE K (He.ga K "_law_is_piece"), fnE K (He.ga K "_law_walked"), fnE K (He.ga K "_law_same_piece"), fnE K (He.ga K "_law_drawn"), fnE K (He.ga K "_law_jar_of"), fnE K (He.ga K "_law_moved"), fnE K (He.ga K "_law_times"), fnE K (He.ga K "is_order"), fnE K (He.ga K "check_order")]
def hdv0 : List He.FnW := [
  some ("_law_bag_of", "_law_bag_of", (defArgs s_l_bag_of), .stmts (defBody s_l_bag_of), (defScope s_l_bag_of), mainGlobals, [], builtinsNs),
  some ("_law_pick", "_law_pick", (defArgs s_l_pick), .stmts (defBody s_l_pick), (defScope s_l_pick), mainGlobals, [], builtinsNs),
  some ("_law_drawable", "_law_drawable", (defArgs s_l_drawable), .stmts (defBody s_l_drawable), (defScope s_l_drawable), mainGlobals, [], builtinsNs),
  some ("is_integer", "is_integer", (defArgs s_is_integer), .stmts (defBody s_is_integer), (defScope s_is_integer), mainGlobals, [], builtinsNs),
  some ("is_term", "is_term", (defArgs s_is_term), .stmts (defBody s_is_term), (defScope s_is_term), mainGlobals, [], builtinsNs),
  some ("summed", "summed", (defArgs s_summed), .stmts (defBody s_summed), (defScope s_summed), mainGlobals, [], builtinsNs),
  some ("__init__", "Poly.__init__", (defArgs s_Poly___init__), .stmts (defBody s_Poly___init__), (defScope s_Poly___init__), mainGlobals, [], builtinsNs),
  some ("_law_terms_of", "_law_terms_of", (defArgs s_l_terms_of), .stmts (defBody s_l_terms_of), (defScope s_l_terms_of), mainGlobals, [], builtinsNs),
  some ("check_poly", "check_poly", (defArgs s_check_poly), .stmts (defBody s_check_poly), (defScope s_check_poly), mainGlobals, [], builtinsNs),
  some ("as_poly", "as_poly", (defArgs s_as_poly), .stmts (defBody s_as_poly), (defScope s_as_poly), mainGlobals, [], builtinsNs),
  some ("__add__", "Poly.__add__", (defArgs s_Poly___add__), .stmts (defBody s_Poly___add__), (defScope s_Poly___add__), mainGlobals, [], builtinsNs),
  some ("negative", "negative", (defArgs s_negative), .stmts (defBody s_negative), (defScope s_negative), mainGlobals, [], builtinsNs),
  some ("__neg__", "Poly.__neg__", (defArgs s_Poly___neg__), .stmts (defBody s_Poly___neg__), (defScope s_Poly___neg__), mainGlobals, [], builtinsNs),
  some ("mirrored", "Poly.mirrored", (defArgs s_Poly_mirrored), .stmts (defBody s_Poly_mirrored), (defScope s_Poly_mirrored), mainGlobals, [], builtinsNs),
  some ("_law_made", "_law_made", (defArgs s_l_made), .stmts (defBody s_l_made), (defScope s_l_made), mainGlobals, [], builtinsNs),
  some ("is_name", "is_name", (defArgs s_is_name), .stmts (defBody s_is_name), (defScope s_is_name), mainGlobals, [], builtinsNs),
  some ("check_name", "check_name", (defArgs s_check_name), .stmts (defBody s_check_name), (defScope s_check_name), mainGlobals, [], builtinsNs),
  some ("__iter__", "Poly.__iter__", (defArgs s_Poly___iter__), .stmts (defBody s_Poly___iter__), (defScope s_Poly___iter__), mainGlobals, [], builtinsNs),
  some ("raw_drawing", "raw_drawing", (defArgs s_raw_drawing), .stmts (defBody s_raw_drawing), (defScope s_raw_drawing), mainGlobals, [], builtinsNs),
  some ("drawing", "drawing", (defArgs s_drawing), .stmts (defBody s_drawing), (defScope s_drawing), mainGlobals, [], builtinsNs),
  some ("_law_is_int", "_law_is_int", (defArgs s_l_is_int), .stmts (defBody s_l_is_int), (defScope s_l_is_int), mainGlobals, [], builtinsNs),
  some ("_law_is_piece", "_law_is_piece", (defArgs s_l_is_piece), .stmts (defBody s_l_is_piece), (defScope s_l_is_piece), mainGlobals, [], builtinsNs),
  some ("_law_walked", "_law_walked", (defArgs s_l_walked), .stmts (defBody s_l_walked), (defScope s_l_walked), mainGlobals, [], builtinsNs),
  some ("_law_same_piece", "_law_same_piece", (defArgs s_l_same_piece), .stmts (defBody s_l_same_piece), (defScope s_l_same_piece), mainGlobals, [], builtinsNs),
  some ("_law_drawn", "_law_drawn", (defArgs s_l_drawn), .stmts (defBody s_l_drawn), (defScope s_l_drawn), mainGlobals, [], builtinsNs),
  some ("_law_jar_of", "_law_jar_of", (defArgs s_l_jar_of), .stmts (defBody s_l_jar_of), (defScope s_l_jar_of), mainGlobals, [], builtinsNs),
  some ("_law_moved", "_law_moved", (defArgs s_l_moved), .stmts (defBody s_l_moved), (defScope s_l_moved), mainGlobals, [], builtinsNs),
  some ("_law_times", "_law_times", (defArgs s_l_times), .stmts (defBody s_l_times), (defScope s_l_times), mainGlobals, [], builtinsNs),
  some ("is_order", "is_order", (defArgs s_is_order), .stmts (defBody s_is_order), (defScope s_is_order), mainGlobals, [], builtinsNs),
  some ("check_order", "check_order", (defArgs s_check_order), .stmts (defBody s_check_order), (defScope s_check_order), mainGlobals, [], builtinsNs)]
def hdf1 (K : PySem.W.Frag) : List He.FnW := [fnE K (He.ga K "primes_of"), fnE K (He.ga K "check_divisor"), fnE K (prF K (He.ma K (He.ga K "Poly") "span")), fnE K (He.ga K "division"), fnE K (He.ma K (He.ga K "Poly") "__floordiv__"), fnE K (He.ga K "raw_ring"), fnE K (He.ga K "ring"), fnE K (He.ga K "_law_primes"), fnE K (He.ga K "_law_totient"), fnE K (He.ga K "_law_ring_row"), fnE K (He.ga K "_law_jar_row"), fnE K (He.ga K "_law_ring_jar"), fnE K (He.ga K "check_number"), fnE K (He.ma K (He.ga K "Poly") "__lshift__"), fnE K (He.ga K "product"), fnE K (He.ma K (He.ga K "Poly") "__mul__"), fnE K (He.ga K "_law_others"), fnE K (He.ga K "_law_odd"), fnE K (He.ga K "_law_builds_codes"), fnE K (He.ga K "_law_asked"), fnE K (prF K (He.ma K (He.ga K "Poly") "terms")), fnE K (He.ma K (He.ga K "Poly") "__len__"), fnE K (He.ga K "_law_is_poly"), fnE K (He.ga K "law")]
def hdv1 : List He.FnW := [
  some ("primes_of", "primes_of", (defArgs s_primes_of), .stmts (defBody s_primes_of), (defScope s_primes_of), mainGlobals, [], builtinsNs),
  some ("check_divisor", "check_divisor", (defArgs s_check_divisor), .stmts (defBody s_check_divisor), (defScope s_check_divisor), mainGlobals, [], builtinsNs),
  some ("span", "Poly.span", (defArgs s_Poly_span), .stmts (defBody s_Poly_span), (defScope s_Poly_span), mainGlobals, [], builtinsNs),
  some ("division", "division", (defArgs s_division), .stmts (defBody s_division), (defScope s_division), mainGlobals, [], builtinsNs),
  some ("__floordiv__", "Poly.__floordiv__", (defArgs s_Poly___floordiv__), .stmts (defBody s_Poly___floordiv__), (defScope s_Poly___floordiv__), mainGlobals, [], builtinsNs),
  some ("raw_ring", "raw_ring", (defArgs s_raw_ring), .stmts (defBody s_raw_ring), (defScope s_raw_ring), mainGlobals, [], builtinsNs),
  some ("ring", "ring", (defArgs s_ring), .stmts (defBody s_ring), (defScope s_ring), mainGlobals, [], builtinsNs),
  some ("_law_primes", "_law_primes", (defArgs s_l_primes), .stmts (defBody s_l_primes), (defScope s_l_primes), mainGlobals, [], builtinsNs),
  some ("_law_totient", "_law_totient", (defArgs s_l_totient), .stmts (defBody s_l_totient), (defScope s_l_totient), mainGlobals, [], builtinsNs),
  some ("_law_ring_row", "_law_ring_row", (defArgs s_l_ring_row), .stmts (defBody s_l_ring_row), (defScope s_l_ring_row), mainGlobals, [], builtinsNs),
  some ("_law_jar_row", "_law_jar_row", (defArgs s_l_jar_row), .stmts (defBody s_l_jar_row), (defScope s_l_jar_row), mainGlobals, [], builtinsNs),
  some ("_law_ring_jar", "_law_ring_jar", (defArgs s_l_ring_jar), .stmts (defBody s_l_ring_jar), (defScope s_l_ring_jar), mainGlobals, [], builtinsNs),
  some ("check_number", "check_number", (defArgs s_check_number), .stmts (defBody s_check_number), (defScope s_check_number), mainGlobals, [], builtinsNs),
  some ("__lshift__", "Poly.__lshift__", (defArgs s_Poly___lshift__), .stmts (defBody s_Poly___lshift__), (defScope s_Poly___lshift__), mainGlobals, [], builtinsNs),
  some ("product", "product", (defArgs s_product), .stmts (defBody s_product), (defScope s_product), mainGlobals, [], builtinsNs),
  some ("__mul__", "Poly.__mul__", (defArgs s_Poly___mul__), .stmts (defBody s_Poly___mul__), (defScope s_Poly___mul__), mainGlobals, [], builtinsNs),
  some ("_law_others", "_law_others", (defArgs s_l_others), .stmts (defBody s_l_others), (defScope s_l_others), mainGlobals, [], builtinsNs),
  some ("_law_odd", "_law_odd", (defArgs s_l_odd), .stmts (defBody s_l_odd), (defScope s_l_odd), mainGlobals, [], builtinsNs),
  some ("_law_builds_codes", "_law_builds_codes", (defArgs s_l_builds_codes), .stmts (defBody s_l_builds_codes), (defScope s_l_builds_codes), mainGlobals, [], builtinsNs),
  some ("_law_asked", "_law_asked", (defArgs s_l_asked), .stmts (defBody s_l_asked), (defScope s_l_asked), mainGlobals, [], builtinsNs),
  some ("terms", "Poly.terms", (defArgs s_Poly_terms), .stmts (defBody s_Poly_terms), (defScope s_Poly_terms), mainGlobals, [], builtinsNs),
  some ("__len__", "Poly.__len__", (defArgs s_Poly___len__), .stmts (defBody s_Poly___len__), (defScope s_Poly___len__), mainGlobals, [], builtinsNs),
  some ("_law_is_poly", "_law_is_poly", (defArgs s_l_is_poly), .stmts (defBody s_l_is_poly), (defScope s_l_is_poly), mainGlobals, [], builtinsNs),
  some ("law", "law", (defArgs s_law), .stmts (defBody s_law), (defScope s_law), mainGlobals, [], builtinsNs)]
def hdt (K : PySem.W.Frag) : List (Option (List (Option (Str × Int)))) := []
def hdw (w : World) : List (Option (List (Option (Str × Int)))) := []
abbrev HdA : Type := List Bool × List (List He.FnW) × List (Option (List (Option (Str × Int))))
def hdObs (K : PySem.W.Frag) : HdA := ([(hdc0 K).all id, (hdc1 K).all id, (hdc2 K).all id, (hdc3 K).all id, (hdc4 K).all id, (hdc5 K).all id, (hdc6 K).all id, (hdc7 K).all id, (hdc8 K).all id, (hdc9 K).all id, (hdc10 K).all id, (hdc11 K).all id], [hdf0 K, hdf1 K], hdt K)
def hdVal (w : World) : HdA := ([true, true, true, true, true, true, true, true, true, true, true, true], [hdv0, hdv1], hdw w)
def hdG (g : Addr → Option Obj) : HdA := hdObs (He.frG g (hdLv g 5 [mainGlobals]))
def hdHook : PySem.W.Hook where
  α := HdA
  obs := fun s => hdG s.heap.get?
  val := hdVal
  says := fun w h => ∃ K : PySem.W.Frag, K.In h ∧ hdObs K = hdVal w
  of := fun _ _ e => ⟨_, He.frG_in, e⟩
  keeps := fun _ _ _ ⟨K, hK, c⟩ k => ⟨K, PySem.W.Frag.In.keeps hK k, c⟩
def hdOb (s : PySem.W.SharedT) : HdA := hdG (HandSHeadRun.getT s)
theorem hdOb_eq (s : PySem.W.SharedT) : hdOb s = hdHook.obs s.abs := by
  have e : HandSHeadRun.getT s = s.abs.heap.get? := funext (HandSHeadRun.getT_eq s)
  show hdG _ = hdG _
  rw [e]
abbrev hdR : PySem.W.OpenRow := PySem.W.OpenLaw.row PySem.Challenge.rw_everyangle_k75_drawings
abbrev hdQ : Program := PySem.W.view hdR.prog [59]
def hdn0 : List Str := ["_wall", "AngleError", "InvalidPoly", "InvalidDivisor", "InvalidNumber", "InvalidOrder", "InvalidOrders", "InvalidName", "InvalidProgram", "NoProgram", "is_integer", "check_number", "is_term", "summed", "Poly", "check_poly", "as_poly", "negative", "product", "check_divisor", "division", "is_order", "check_order", "primes_of", "raw_ring", "ring", "is_name", "check_name", "raw_drawing", "drawing"]
def hdn1 : List Str := ["_law_bag_of", "_law_pick", "_law_is_int", "_law_jar_of", "_law_terms_of", "_law_times", "_law_moved", "_law_is_poly", "_law_odd", "_law_primes", "_law_totient", "_law_ring_row", "_law_jar_row", "_law_ring_jar", "_law_same_piece", "_law_walked", "_law_is_piece", "_law_drawable", "_law_builds_codes", "_law_made", "_law_asked", "_law_drawn", "_law_others"]
def hdL : List Str := hdn0 ++ hdn1
theorem hdRun_f (w : World) : HandSHeadRun.RunEq hdR hdQ hdHook hdOb 9000 hdL (w.withFollow "special-get-raises" false) := by
  intro os
  kernel_rfl
theorem hdRun_t (w : World) : HandSHeadRun.RunEq hdR hdQ hdHook hdOb 9000 hdL (w.withFollow "special-get-raises" true) := by
  intro os
  kernel_rfl
theorem hdRun (w : World) : HandSHeadRun.RunEq hdR hdQ hdHook hdOb 9000 hdL w := by_row hdRun_f hdRun_t w
end
end My
/-! the head itself, early in the text: what the law's def promises is asked for -/
open PySem PySem.Spec PyProof.Rows L2 in
theorem My.hd_law (FF : ∀ (w : World) (K : PySem.W.Frag) (h : Heap) (mg : Str → Option Value) (fa : Addr), K.In h → h.Ns mainGlobals mg → mg "law" = some (.ref fa) → My.hdObs K = My.hdVal w →
    ∃ fd : FuncData, (∀ (s : Shared) (v : Value), BindsTo s fd ⟨[v], []⟩ [("_law_script", v)]) ∧ ∀ base : Heap, K.In base → base.Ns mainGlobals mg → FnOk PySem.Challenge.rw_everyangle_k75_drawings.prog w K mg base CX0 32 fa fd ["_law_script"] (My.spLaw K)) : PySem.Challenge.rw_everyangle_k75_drawings.Holds := by
  w_on; o_law
  refine HandSHeadRun.head_any (r := PySem.W.OpenLaw.row PySem.Challenge.rw_everyangle_k75_drawings) (q := My.hdQ) (H := My.hdHook) (ob := My.hdOb) (M := 9000) (loose := My.hdL) (d := HandSHeadRun.topDef (PySem.W.OpenLaw.row PySem.Challenge.rw_everyangle_k75_drawings).prog 59) (kwd := []) My.hdOb_eq
    (by kernel_rfl) (fun s => by kernel_rfl) My.hdRun (by kernel_rfl) (by kernel_rfl) (by kernel_rfl) (by rfl) (by first | assumption | decide +kernel) (by decide +kernel) ⟨rfl, rfl, rfl, rfl, rfl, by decide +kernel⟩ ?hw ?hc
  case hw => w_witness2
  case hc =>
    refine L2.walk_ofE (l := PySem.Challenge.rw_everyangle_k75_drawings) (n := 63) (k := 32) (x := "_law_script") (CX := L2.CX0) rfl (by decide) (by kernel_rfl) ⟨rfl, by decide, by decide⟩ ?F (fun _ _ _ _ z => z)
    intro w mg fa h Y G hmg0
    obtain ⟨K, KX, c⟩ := Y
    have hmg : mg ("law" : PySem.Str) = some (.ref fa) := by
      have e : (HandSHeadRun.topDef (PySem.W.OpenLaw.row PySem.Challenge.rw_everyangle_k75_drawings).prog 59).name = ("law" : PySem.Str) := by kernel_rfl
      rw [← e]
      exact hmg0
    obtain ⟨fd, hb, hF⟩ := FF w K h mg fa KX G hmg c
    exact ⟨K, fd, My.spLaw K, KX, hb, fun H a ns hl _ hS => ⟨a, ns, rfl, hS, hl, fun _ => rfl⟩, hF⟩

set_option Elab.async false
set_option linter.all false
set_option maxRecDepth 100000
namespace My
open PySem PySem.Spec PyProof.Rows L2
/-! ### a def called with fewer values than it has parameters -/
section
variable {X : Cx} {k : Nat} {ps : List Str} {sp : Sp} {x : Str} {p pos : Pos} {e : Expr} {es : List Expr} {t : TA} {dvs : List V}
end
theorem r_rep {l : Addr} {k : Int} {xs : List V} {H : Hp} {Q : VK} (h : H l = some (.lst xs)) (h1 : 0 ≤ k) (h2 : k < 2 ^ 63) (hz : xs.length * k.toNat ≤ 16000000)
    (q : ∀ p, H p = none → Q (.ref p) (upd H p (.lst (List.replicate k.toNat xs).flatten))) : rRep (.ref l) (.int k) H Q := ⟨l, k, xs, rfl, rfl, h, by omega, h2, Nat.le_trans hz (by decide), q⟩
theorem PrAt.times {H : Hp} {p : Prog} {xs : List V} (h : PrAt H p xs) : ∀ n, PrAt H (Prog.times n p) (List.replicate n xs).flatten
  | 0 => rfl
  | n + 1 => by
    rw [List.replicate_succ, List.flatten_cons]
    exact h.app (h.times n)
def rAbs : List V → Hp → VK → Prop := fun xs H Q => ∃ i, xs = [.int i] ∧ Q (.int (if i < 0 then -i else i)) H
theorem call_absA {X : Cx} : CallR X (.builtin "abs") rAbs := call_abs
theorem r_abs {i : Int} {H : Hp} {Q : VK} (q : Q (.int (if i < 0 then -i else i)) H) : rAbs [.int i] H Q := ⟨i, rfl, q⟩
section
variable {σ : L2.St} {H : Hp} {K : PySem.W.Frag} {D : Ends} {tb : TS} {g : TG} {a : Addr} {xs : List V} {p : Prog}
end
section
variable {P : Program} {w : World} {K : PySem.W.Frag} {mg : Str → Option Value} {base : Heap} {x qual : Str} {params : Arguments} {body : List Stmt} {scope : Scope} {dvs : List V} {kws : List (Str × V)} {f : Addr} {fd : FuncData}
end
/-! ### short programs -/
namespace Prog
/-- no heading on the way of a flat program leaves -12 .. 12 -/
def wayOk : Int → Prog → Bool
  | _, .nil => true
  | n, .step _ _ r => wayOk n r
  | n, .turn k r => if n + k > 12 ∨ n + k < -12 then false else wayOk (n + k) r
  | _, .rep _ _ _ => true
  | _, .mir _ _ => true
def short (p : Prog) : Bool := if p.size > 200 then false else wayOk 0 (unroll 1 p)
end Prog
end My

set_option Elab.async false
set_option linter.all false
set_option maxRecDepth 100000
namespace My
open PySem PySem.Spec PyProof.Rows L2
end My

set_option Elab.async false
set_option linter.all false
set_option maxRecDepth 100000
namespace My
open PySem PySem.Spec PyProof.Rows L2
section
variable {H : Hp} {Q : VK} {K : PySem.W.Frag}
def rIsN : R2 := fun x y H Q => y = .non ∧ Q (.bl (decide (x = .non))) H
theorem op_isNN {X : Cx} : OpR X (compareOp .Is) rIsN := op_isN
theorem r_isNN (q : Q (.bl true) H) : rIsN .non .non H Q := ⟨rfl, by rw [decide_eq_true rfl]; exact q⟩
end
namespace Prog
theorem head_flat {L : Nat} {C T : Int} : ∀ {p : Prog}, WfL L C T 0 p → p.head = p.turns.sum
  | .nil, _ => by rw [head, turns]; rfl
  | .step w n r, h => by rw [head, turns]; exact head_flat (WfL.step_iff.mp h).2.2
  | .turn k r, h => by rw [head, turns, List.sum_cons, head_flat (WfL.turn_iff.mp h).2]
  | .rep _ _ _, h => h.elim
  | .mir _ _, h => h.elim
end Prog
end My

set_option Elab.async false
set_option linter.all false
set_option maxRecDepth 100000
namespace My
open PySem PySem.Spec PyProof.Rows L2
/-! ### undone programs -/
namespace Prog
theorem unroll_app (s : Int) : ∀ p q : Prog, unroll s (p.app q) = (unroll s p).app (unroll s q)
  | .nil, q => by rw [app, unroll, app]
  | .step w n p, q => by rw [app, unroll, unroll, unroll_app s p q, app]
  | .turn k p, q => by rw [app, unroll, unroll, unroll_app s p q, app]
  | .rep k b p, q => by rw [app, unroll, unroll, unroll_app s p q, app_assoc]
  | .mir b p, q => by rw [app, unroll, unroll, unroll_app s p q, app_assoc]
end Prog
end My

set_option Elab.async false
set_option linter.all false
set_option maxRecDepth 100000
namespace My
open PySem PySem.Spec PyProof.Rows L2 RT
theorem WfL.split {L : Nat} {C T : Int} : ∀ {d : Nat} {p q : Prog}, WfL L C T d (p.app q) → WfL L C T d p ∧ WfL L C T d q
  | _, .nil, _, h => ⟨WfL.nil, h⟩
  | d, .step w n r, q, h => by
    have h := WfL.step_iff.mp (show WfL L C T d (.step w n (r.app q)) from h)
    exact ⟨WfL.step_iff.mpr ⟨h.1, h.2.1, (WfL.split h.2.2).1⟩, (WfL.split h.2.2).2⟩
  | d, .turn k r, q, h => by
    have h := WfL.turn_iff.mp (show WfL L C T d (.turn k (r.app q)) from h)
    exact ⟨WfL.turn_iff.mpr ⟨h.1, (WfL.split h.2).1⟩, (WfL.split h.2).2⟩
  | 0, .rep _ _ _, _, h => h.elim
  | d + 1, .rep k b r, q, h => by
    have h : (1 ≤ k ∧ k ≤ C) ∧ (1 ≤ b.len ∧ b.len ≤ L) ∧ WfL L C T d b ∧ WfL L C T (d + 1) (r.app q) := h
    exact ⟨⟨h.1, h.2.1, h.2.2.1, (WfL.split h.2.2.2).1⟩, (WfL.split h.2.2.2).2⟩
  | 0, .mir _ _, _, h => h.elim
  | d + 1, .mir b r, q, h => by
    have h : (1 ≤ b.len ∧ b.len ≤ L) ∧ WfL L C T d b ∧ WfL L C T (d + 1) (r.app q) := h
    exact ⟨⟨h.1, h.2.1, (WfL.split h.2.2).1⟩, (WfL.split h.2.2).2⟩
theorem PrAt.split {H : Hp} : ∀ {p q : Prog} {xs : List V}, PrAt H (p.app q) xs → ∃ ys zs, xs = ys ++ zs ∧ PrAt H p ys ∧ PrAt H q zs
  | .nil, q, xs, h => ⟨[], xs, rfl, rfl, h⟩
  | .step w n r, q, xs, h => by
    obtain ⟨c, ys, e, h1, h2⟩ := h
    obtain ⟨us, vs, e2, h3, h4⟩ := PrAt.split (p := r) h2
    exact ⟨.ref c :: us, vs, by rw [e, e2]; rfl, ⟨c, us, rfl, h1, h3⟩, h4⟩
  | .turn k r, q, xs, h => by
    obtain ⟨c, ys, e, h1, h2⟩ := h
    obtain ⟨us, vs, e2, h3, h4⟩ := PrAt.split (p := r) h2
    exact ⟨.ref c :: us, vs, by rw [e, e2]; rfl, ⟨c, us, rfl, h1, h3⟩, h4⟩
  | .rep k b r, q, xs, h => by
    obtain ⟨c, q0, z0, ys, e, h1, h0, hb, h2⟩ := h
    obtain ⟨us, vs, e2, h3, h4⟩ := PrAt.split (p := r) h2
    exact ⟨.ref c :: us, vs, by rw [e, e2]; rfl, ⟨c, q0, z0, us, rfl, h1, h0, hb, h3⟩, h4⟩
  | .mir b r, q, xs, h => by
    obtain ⟨c, q0, z0, ys, e, h1, h0, hb, h2⟩ := h
    obtain ⟨us, vs, e2, h3, h4⟩ := PrAt.split (p := r) h2
    exact ⟨.ref c :: us, vs, by rw [e, e2]; rfl, ⟨c, q0, z0, us, rfl, h1, h0, hb, h3⟩, h4⟩
theorem len_zero {p : Prog} (h : p.len = 0) : p = .nil := by cases p <;> first | rfl | cases h
/-- what stands at the place of the last command -/
theorem PrAt.last {H : Hp} {r c s : Prog} {xs : List V} (h : PrAt H (r.app (c.app s)) xs) (hc : c.len = 1) : ∃ x, xs[r.len]? = some x ∧ First H c x .nil := by
  obtain ⟨ys, zs, e, h1, h2⟩ := PrAt.split h
  obtain ⟨us, vs, e2, h3, h4⟩ := PrAt.split (p := c) h2
  have l1 := h1.length
  have l3 := h3.length
  rw [hc] at l3
  match us, l3, h3 with
  | [x], _, h3 =>
    obtain ⟨r', hf, hr⟩ := h3.first
    have e0 : r'.len = 0 := hr.length.symm
    rw [len_zero e0] at hf
    refine ⟨x, ?_, hf⟩
    rw [e, e2, List.getElem?_append_right (by omega), l1, Nat.sub_self]
    rfl
section
variable {σ : L2.St} {H : Hp} {K : PySem.W.Frag} {D : Ends} {tb : TS} {g : TG} {a : Addr} {xs : List V} {p : Prog}
end
end My

set_option Elab.async false
set_option linter.all false
set_option maxRecDepth 100000
namespace My
open PySem PySem.Spec PyProof.Rows L2 HT PySem.Builtin
/-! ### t[::-1], t a tuple -/
section
variable {prog : Program} {w : World} {A : Around} {E : Value → Shared → Prop} {s : Shared}
end
section
variable {X : Cx} {pos : Pos}
end
end My

set_option Elab.async false
set_option linter.all false
set_option maxRecDepth 100000
namespace My
open PySem PySem.Spec PyProof.Rows L2
/-! ### terms: powers and numbers -/
abbrev Terms := List (Int × Int)
/-- the number of a power: the sum of the numbers with it -/
def cof : Terms → Int → Int
  | [], _ => 0
  | p :: l, k => (if p.1 = k then p.2 else 0) + cof l k
/-- ascending powers, no number 0 -/
structure Canon (l : Terms) : Prop where
  asc : l.Pairwise fun p q => p.1 < q.1
  nz : ∀ p ∈ l, p.2 ≠ 0
theorem cof_app : ∀ (l m : Terms) (k : Int), cof (l ++ m) k = cof l k + cof m k
  | [], m, k => by rw [List.nil_append, cof, Int.zero_add]
  | p :: l, m, k => by rw [List.cons_append, cof, cof, cof_app l m k, Int.add_assoc]
theorem cof_none : ∀ {l : Terms} {k : Int}, (∀ p ∈ l, p.1 ≠ k) → cof l k = 0
  | [], _, _ => rfl
  | p :: l, k, h => by
    rw [cof, if_neg (h p List.mem_cons_self), cof_none fun q hq => h q (List.mem_cons_of_mem _ hq), Int.add_zero]
theorem Canon.nil : Canon [] := ⟨.nil, fun _ h => absurd h (by simp)⟩
theorem Canon.tail {p : Int × Int} {l : Terms} (h : Canon (p :: l)) : Canon l := ⟨(List.pairwise_cons.mp h.asc).2, fun q hq => h.nz q (List.mem_cons_of_mem _ hq)⟩
theorem Canon.head {p : Int × Int} {l : Terms} (h : Canon (p :: l)) : cof (p :: l) p.1 = p.2 := by
  rw [cof, if_pos rfl, cof_none fun q hq => by have := (List.pairwise_cons.mp h.asc).1 q hq; omega, Int.add_zero]
theorem Canon.low {p : Int × Int} {l : Terms} (h : Canon (p :: l)) {k : Int} (hk : k < p.1) : cof (p :: l) k = 0 :=
  cof_none fun q hq => by
    rcases List.mem_cons.mp hq with rfl | hq
    · omega
    · have := (List.pairwise_cons.mp h.asc).1 q hq; omega
/-- what the numbers are, the canonical terms are -/
theorem Canon.ext : ∀ {l m : Terms}, Canon l → Canon m → (∀ k, cof l k = cof m k) → l = m
  | [], [], _, _, _ => rfl
  | p :: l, [], h, _, e => absurd ((h.head.symm.trans (e p.1)).trans rfl) (h.nz p List.mem_cons_self)
  | [], q :: m, _, h, e => absurd ((h.head.symm.trans (e q.1).symm).trans rfl) (h.nz q List.mem_cons_self)
  | p :: l, q :: m, h, h', e => by
    have hp := h.nz p List.mem_cons_self
    have hq := h'.nz q List.mem_cons_self
    have e1 : p.1 = q.1 := by
      rcases Int.lt_trichotomy p.1 q.1 with a | a | a
      · have := e p.1
        rw [h.head, h'.low a] at this
        exact absurd this hp
      · exact a
      · have := e q.1
        rw [h'.head, h.low a] at this
        exact absurd this.symm hq
    have e2 : p.2 = q.2 := by
      have := e p.1
      rw [h.head, e1, h'.head] at this
      exact this
    have e3 : p = q := Prod.ext e1 e2
    subst e3
    have e4 : l = m := Canon.ext h.tail h'.tail fun k => by
      have := e k
      rw [cof, cof] at this
      omega
    rw [e4]
theorem Canon.zero {l : Terms} (h : Canon l) (e : ∀ k, cof l k = 0) : l = [] := Canon.ext h Canon.nil e
/-- the terms by ascending keys -/
theorem canon_of {ys : List Int} (h : ys.Pairwise (· < ·)) (f : Int → Int) : Canon ((ys.filter fun k => decide (f k ≠ 0)).map fun k => (k, f k)) := by
  refine ⟨List.pairwise_map.mpr ((h.filter _).imp fun a => a), fun p hp => ?_⟩
  obtain ⟨k, hk, rfl⟩ := List.mem_map.mp hp
  simpa using (List.mem_filter.mp hk).2
theorem cof_of : ∀ {ys : List Int}, ys.Pairwise (· < ·) → ∀ (f : Int → Int) (k : Int), cof ((ys.filter fun k => decide (f k ≠ 0)).map fun k => (k, f k)) k = if k ∈ ys then f k else 0
  | [], _, f, k => by simp [cof]
  | y :: ys, h, f, k => by
    have ih := cof_of (List.pairwise_cons.mp h).2 f k
    have hy := (List.pairwise_cons.mp h).1
    by_cases e : k = y
    · subst e
      have hn : ¬ k ∈ ys := fun hm => by have := hy k hm; omega
      rw [if_neg hn] at ih
      by_cases z : f k = 0
      · rw [List.filter_cons_of_neg (by simpa using z), ih, if_pos (by simp), z]
      · rw [List.filter_cons_of_pos (by simpa using z), List.map_cons, cof, ih, if_pos rfl, if_pos (by simp), Int.add_zero]
    · have em : (k ∈ y :: ys) ↔ k ∈ ys := by simp [e]
      by_cases z : f y = 0
      · rw [List.filter_cons_of_neg (by simpa using z), ih]; simp only [em]
      · rw [List.filter_cons_of_pos (by simpa using z), List.map_cons, cof, ih, if_neg (fun h => e h.symm), Int.zero_add]; simp only [em]
theorem Canon.le_len {l m : Terms} (h : Canon l) : (∀ p ∈ l, p.1 ∈ m.map (·.1)) → l.length ≤ m.length := by
  intro hs
  have nd : (l.map (·.1)).Nodup := (List.pairwise_map.mpr (h.asc.imp fun a => by omega))
  have key : ∀ (xs ys : List Int), xs.Nodup → (∀ x ∈ xs, x ∈ ys) → xs.length ≤ ys.length := by
    intro xs
    induction xs with
    | nil => intro ys _ _; exact Nat.zero_le _
    | cons x xs ih =>
      intro ys hn hs
      have hx := hs x List.mem_cons_self
      obtain ⟨hxn, hn⟩ := List.nodup_cons.mp hn
      have h1 := ih (ys.erase x) hn fun z hz => (List.mem_erase_of_ne (by rintro rfl; exact hxn hz)).mpr (hs z (List.mem_cons_of_mem _ hz))
      rw [List.length_erase_of_mem hx] at h1
      have h2 := List.length_pos_of_mem hx
      rw [List.length_cons]
      omega
  have := key (l.map (·.1)) (m.map (·.1)) nd fun x hx => by
    obtain ⟨p, hp, rfl⟩ := List.mem_map.mp hx
    exact hs p hp
  simpa using this

/-! ### sorted(d), d a dict of int keys, any number of them -/
def rSortDI : List V → Hp → VK → Prop := fun xs H Q => ∃ (a : Addr) (kvs : List (Key × V)) (ks : List Int), xs = [.ref a] ∧ Rd H a (.dK kvs) ∧ kvs.map (·.1) = ks.map Sum.inl ∧
    ∀ (ys : List Int) (p : Addr), ys.Perm ks → ys.Pairwise (· ≤ ·) → H p = none → Q (.ref p) (upd H p (.lst (ys.map V.int)))
theorem call_sortedDA {X : Cx} (hcalm : X.calm = true := by rfl) : CallR X (.builtin "sorted") rSortDI := by
  intro pins s σ H xs us Q I r q
  obtain ⟨a, kvs, ks, ex, hd, hks, q⟩ := q
  subst ex
  obtain ⟨u, eu, rx⟩ := vals1 r
  subst eu
  cases rx
  obtain ⟨z, lo, vs, rel, dd⟩ := dk_rd I.hok hd
  obtain ⟨ep, hat⟩ := dd.dictAt
  have hkeys : vs.map (·.1) = ks.map Sum.inl := rel.keys.symm.trans hks
  have hl : vs.length = ks.length := by
    have e := congrArg List.length hkeys
    rw [List.length_map, List.length_map] at e
    exact e
  have h16 : vs.length ≤ sizeLine := by rw [← rel.length]; exact z
  refine Calls.call_function_entry PyProof.Rows.kind_sorted PyProof.Rows.plain_sorted PyProof.Rows.entry_sorted (PyProof.Rows.args_sorted1 _) ?_
  unfold Builtin.«sorted»
  refine wpAny_bind (m := checkCount "sorted" 1 1 _) (wpAny_pure ?_)
  refine wpAny_bind (PySem.W.kdu_collect (A := X.A.in1) (PySem.W.kdl_dict (knd := mixKind X.prog X.w) (kvs := vs) (ep := ep) lo) (I.ok.hd hcalm) hat h16 fun h' tk acc hk hacc => ?_)
  have hal : acc.toList.length = ks.length := by rw [Array.length_toList, hacc.1, hl]
  have hS : IntsAre acc.toList ks := ints_each hal fun j v e => by
    obtain ⟨k, x, e1, e2⟩ := hacc.2 j v (by rw [← Array.getElem?_toList]; exact e)
    have e3 : (vs.map (·.1))[j]? = some k := by rw [List.getElem?_map, e1]; rfl
    rw [hkeys, List.getElem?_map] at e3
    cases e4 : ks[j]? with
    | none => rw [e4] at e3; cases e3
    | some y =>
      rw [e4] at e3
      have e5 : Sum.inl y = k := Option.some.inj e3
      subst e5
      rcases keyIs_shape (show keyIs (Sum.inl y) v = true from e2) with ⟨i, t, ek, ev⟩ | ⟨z, t, ek, ev⟩
      · cases ek
        exact ⟨y, t, rfl, ev⟩
      · cases ek
  have I1 : Inv X pins σ H { s with heap := h', toks := tk } := I.kept hk
  have h17 : acc.toList.length ≤ sizeLine := by rw [hal, ← hl]; exact h16
  refine wpAny_bind (wpAny_newList ?_ h17)
  have hoL : (h'.push (seqObj "list" acc.toList.toArray 0)).get? h'.objs.size = some (seqObj "list" acc.toList.toArray 0) := Heap.get?_push_size _ rfl
  show wpAny _ _ _ _ _ { s with heap := h'.push (seqObj "list" acc.toList.toArray 0), toks := tk }
  refine wpAny_bind (wpAny_holding (wpAny_call_entry PyProof.Rows.slot_list_sort ⟨_, hoL, rfl⟩ PyProof.Rows.entry_list_sort
    (SrtO.list_sort_ord (s := { s with heap := h'.push (seqObj "list" acc.toList.toArray 0), toks := tk }) SrtO.swo_int hoL h17 (fun h2 => SrtO.ints_sortable hS h2) fun out h1 h2 => ⟨_, rfl, ?_⟩) (PyProof.Rows.args_list_sort _)))
  obtain ⟨k1, k2, k3⟩ := SrtO.ints_out hS h1 h2
  obtain ⟨e', he'⟩ := PyProof.Rows.sortedHeap_at (vs := acc.toList) (out := out.toArray) hoL
  have hlen : ((out.map SrtO.iv).map V.int).length ≤ sizeLine := by
    rw [List.length_map, k2.length_eq, ← hl]
    exact h16
  refine wpAny_pure ⟨_, rfl, .ref h'.objs.size, upd H h'.objs.size (.lst ((out.map SrtO.iv).map V.int)), I1.laid (t' := tk) (fun b u e => ?_) (Nat.le_refl _)
    (show ObjOk X.prog X.w _ _ _ (.lst ((out.map SrtO.iv).map V.int)) from ⟨hlen, out, e', vals_of_ints k1, he'⟩), rfl, q _ _ k2 k3 (I1.hok.fresh (Nat.le_refl _))⟩
  have hb : b < h'.objs.size := Heap.lt_size e
  rw [PyProof.Rows.sortedHeap_old (Nat.ne_of_lt hb) (by rw [size_push']; exact Nat.lt_succ_of_lt hb)]
  exact Heap.get?_push_of_some _ e
/-- sorted(d), texts as keys -/
def rSortDS : List V → Hp → VK → Prop := fun xs H Q => ∃ (a : Addr) (kvs : List (Key × V)) (ks : List Str), xs = [.ref a] ∧ Rd H a (.dK kvs) ∧ kvs.map (·.1) = ks.map Sum.inr ∧ ks.length < 64 ∧
    ∀ ys p, ys.Perm ks → sortedS ys = true → H p = none → Q (.ref p) (upd H p (.lst (ys.map V.str)))
theorem call_sortedDS {X : Cx} (hcalm : X.calm = true := by rfl) : CallR X (.builtin "sorted") rSortDS := call_sortedD hcalm
/-! ### jars: dicts of ints by ints -/
def cfK (kvs : List (Key × V)) (k : Int) : Int := match valV kvs (.inl k) with | some (.int n) => n | _ => 0
structure JarK (kvs : List (Key × V)) : Prop where
  prs : ∀ p ∈ kvs, ∃ k n : Int, p = (Sum.inl k, V.int n)
  nd : (kvs.map (·.1)).Nodup
theorem mem_put {kvs : List (Key × V)} {k : Key} {v : V} {p : Key × V} (h : p ∈ putK kvs k v) : p ∈ kvs ∨ p = (k, v) := by
  unfold putK at h
  split at h
  · obtain ⟨q, hq, e⟩ := List.mem_map.mp h
    split at e
    · rename_i ek; right; rw [← e, ek]
    · left; rw [← e]; exact hq
  · rcases List.mem_append.mp h with h | h
    · exact .inl h
    · exact .inr (List.mem_singleton.mp h)
theorem keys_put (kvs : List (Key × V)) (k : Key) (v : V) : (putK kvs k v).map (·.1) = if (kvs.any fun kv => decide (kv.1 = k)) = true then kvs.map (·.1) else kvs.map (·.1) ++ [k] := by
  unfold putK
  split
  · rw [List.map_map]
    refine List.map_congr_left fun p _ => ?_
    show (if p.1 = k then (p.1, v) else p).1 = p.1
    split <;> rfl
  · rw [List.map_append]; rfl
theorem nodup_put {kvs : List (Key × V)} (h : (kvs.map (·.1)).Nodup) (k : Key) (v : V) : ((putK kvs k v).map (·.1)).Nodup := by
  rw [keys_put]
  split
  · exact h
  · rename_i hn
    refine List.nodup_append.mpr ⟨h, by simp, fun a ha b hb e => hn ?_⟩
    have hb := List.mem_singleton.mp hb
    subst hb
    subst e
    obtain ⟨p, hp, e⟩ := List.mem_map.mp ha
    exact List.any_eq_true.mpr ⟨p, hp, decide_eq_true e⟩
theorem JarK.nil : JarK [] := ⟨fun _ h => absurd h (by simp), by simp⟩
theorem JarK.put {kvs : List (Key × V)} (h : JarK kvs) (k n : Int) : JarK (putK kvs (.inl k) (.int n)) := by
  refine ⟨fun p hp => ?_, nodup_put h.nd _ _⟩
  rcases mem_put hp with h1 | rfl
  · exact h.prs p h1
  · exact ⟨k, n, rfl⟩
theorem cfK_put (kvs : List (Key × V)) (k n j : Int) : cfK (putK kvs (.inl k) (.int n)) j = if j = k then n else cfK kvs j := by
  unfold cfK
  rw [valV_put]
  by_cases e : j = k
  · subst e; rw [if_pos rfl, if_pos rfl]
  · rw [if_neg (fun h => e (Sum.inl.inj h)), if_neg e]
theorem val_mem {kvs : List (Key × V)} {k : Key} {v : V} (h : valV kvs k = some v) : (k, v) ∈ kvs := by
  unfold valV at h
  cases e : kvs.find? fun kv => decide (kv.1 = k) with
  | none => rw [e] at h; cases h
  | some p =>
    rw [e] at h
    have h1 := List.mem_of_find?_eq_some e
    have h2 := List.find?_some e
    have h3 : p.1 = k := of_decide_eq_true h2
    have h4 : p.2 = v := Option.some.inj h
    rw [← h3, ← h4]
    exact h1
theorem val_none {kvs : List (Key × V)} {k : Key} (h : valV kvs k = none) : ∀ p ∈ kvs, p.1 ≠ k := by
  intro p hp e
  unfold valV at h
  have h2 : kvs.find? (fun kv => decide (kv.1 = k)) = none := by
    cases q : kvs.find? (fun kv => decide (kv.1 = k)) with
    | none => rfl
    | some _ => rw [q] at h; cases h
  have := List.find?_eq_none.mp h2 p hp
  exact this (decide_eq_true e)
theorem JarK.val {kvs : List (Key × V)} (h : JarK kvs) (k : Int) : (valV kvs (.inl k)).getD (.int 0) = .int (cfK kvs k) := by
  unfold cfK
  cases e : valV kvs (.inl k) with
  | none => rfl
  | some v =>
    obtain ⟨k', n, e2⟩ := h.prs _ (val_mem e)
    cases e2
    rfl
theorem JarK.some {kvs : List (Key × V)} (h : JarK kvs) {k : Int} (m : Sum.inl k ∈ kvs.map (·.1)) : valV kvs (.inl k) = some (.int (cfK kvs k)) := by
  have hv := h.val k
  cases e : valV kvs (.inl k) with
  | none =>
    obtain ⟨p, hp, ek⟩ := List.mem_map.mp m
    exact absurd ek (val_none e p hp)
  | some v => rw [e] at hv; exact congrArg Option.some hv
theorem JarK.keys {kvs : List (Key × V)} (h : JarK kvs) : ∃ ks : List Int, kvs.map (·.1) = ks.map Sum.inl ∧ ks.Nodup ∧ (∀ k, ¬ k ∈ ks → cfK kvs k = 0) ∧ ks.length = kvs.length := by
  have hex : ∀ {l : List (Key × V)}, (∀ p ∈ l, ∃ k n : Int, p = (Sum.inl k, V.int n)) → ∃ ks : List Int, l.map (·.1) = ks.map Sum.inl := by
    intro l
    induction l with
    | nil => intro _; exact ⟨[], rfl⟩
    | cons p l ih =>
      intro hl
      obtain ⟨k, n, e⟩ := hl p List.mem_cons_self
      obtain ⟨ks, e2⟩ := ih fun q hq => hl q (List.mem_cons_of_mem _ hq)
      exact ⟨k :: ks, by rw [List.map_cons, List.map_cons, e2, e]⟩
  obtain ⟨ks, e⟩ := hex h.prs
  refine ⟨ks, e, ?_, fun k hk => ?_, ?_⟩
  · have := h.nd
    rw [e] at this
    exact (List.pairwise_map.mp this).imp fun a b => a (congrArg Sum.inl b)
  · unfold cfK
    cases q : valV kvs (.inl k) with
    | none => rfl
    | some v =>
      have hm : Sum.inl k ∈ kvs.map (·.1) := List.mem_map.mpr ⟨_, val_mem q, rfl⟩
      rw [e] at hm
      obtain ⟨k', hk', e'⟩ := List.mem_map.mp hm
      cases e'
      exact absurd hk' hk
  · have := congrArg List.length e
    simpa using this.symm
/-- the jar at a: its numbers c, at most n powers -/
def JarAt (H : Hp) (a : Addr) (n : Nat) (c : Int → Int) : Prop := ∃ kvs, H a = some (.dK kvs) ∧ JarK kvs ∧ kvs.length ≤ n ∧ ∀ k, cfK kvs k = c k
theorem JarAt.new {H : Hp} {p : Addr} : JarAt (upd H p (.dK [])) p 0 fun _ => 0 := ⟨[], upd_same, .nil, Nat.le_refl _, fun _ => rfl⟩
theorem JarAt.same {H H' : Hp} {a : Addr} {n : Nat} {c : Int → Int} (h : JarAt H a n c) (s : Same H H') : JarAt H' a n c := let ⟨kvs, e, r⟩ := h; ⟨kvs, s _ _ e, r⟩
theorem JarAt.keep {H : Hp} {a p : Addr} {o : HO} {n : Nat} {c : Int → Int} (h : JarAt H a n c) (q : H p = none) : JarAt (upd H p o) a n c := let ⟨kvs, e, r⟩ := h; ⟨kvs, h_keep e q, r⟩
theorem JarAt.but {H H' : Hp} {a b : Addr} {n : Nat} {c : Int → Int} (h : JarAt H a n c) (ne : a ≠ b) (s : But b H H') : JarAt H' a n c := let ⟨kvs, e, r⟩ := h; ⟨kvs, s _ _ ne e, r⟩
theorem JarAt.ext {H : Hp} {a : Addr} {n : Nat} {c d : Int → Int} (h : JarAt H a n c) (e : ∀ k, c k = d k) : JarAt H a n d := let ⟨kvs, e1, r1, r2, r3⟩ := h; ⟨kvs, e1, r1, r2, fun k => (r3 k).trans (e k)⟩
theorem JarAt.ne {H : Hp} {a p : Addr} {n : Nat} {c : Int → Int} (h : JarAt H a n c) (q : H p = none) : p ≠ a := let ⟨_, e, _⟩ := h; (ne_of_none e q).symm
/-- k is a key of the jar -/
def JarHas (H : Hp) (a : Addr) (k : Int) : Prop := ∃ kvs : List (Key × V), H a = some (.dK kvs) ∧ Sum.inl k ∈ kvs.map (·.1)
theorem JarHas.same {H H' : Hp} {a : Addr} {k : Int} (h : JarHas H a k) (s : Same H H') : JarHas H' a k := let ⟨kvs, e, r⟩ := h; ⟨kvs, s _ _ e, r⟩
def addAt (c : Int → Int) (k v : Int) : Int → Int := fun j => if j = k then v else c j
section
variable {σ : L2.St} {H : Hp} {Q : VK} {K : PySem.W.Frag} {td ty tx tv : TE} {a : Addr} {n : Nat} {c : Int → Int} {D : Ends}
theorem r_dnew (q : ∀ p, H p = none → Q (.ref p) (upd H p (.dK []))) : tDNewK σ H Q := q
theorem r_dget2 (q : td σ H fun x H1 => ∃ a, x = .ref a ∧ IsD H1 a ∧ ty σ H1 fun y H2 => tx σ H2 fun z H3 => ∃ o, DGet H3 a y o ∧ Q (o.getD z) H3) : tDGet2 td ty tx σ H Q := q
theorem r_dget (q : td σ H fun x H1 => ty σ H1 fun y H2 => ∃ a v, x = .ref a ∧ DGet H2 a y (some v) ∧ Q v H2) : tDGet td ty σ H Q := q
theorem r_dput (q : tv σ H fun v H1 => td σ H1 fun x H2 => ty σ H2 fun y H3 => ∃ a H4, x = .ref a ∧ DPut H3 a y v H4 ∧ D.nx σ H4) : sDPut td ty tv D σ H := q
theorem r_dsetd (q : td σ H fun x H1 => ∃ a, x = .ref a ∧ IsD H1 a ∧ ty σ H1 fun y H2 => tx σ H2 fun z H3 => ∃ (kvs : List (Key × V)) (k : Key), H3 a = some (.dK kvs) ∧ y = kV k ∧ kvs.length < sizeLine ∧
  (∀ v, valV kvs k = some v → Q v H3) ∧ (valV kvs k = none → Q z (upd H3 a (.dK (putK kvs k z))))) : tDSetd td ty tx σ H Q := q
theorem r_isD {kvs : List (Key × V)} {R : Addr → Prop} (h : H a = some (.dK kvs)) (q : R a) : ∃ b, V.ref a = .ref b ∧ IsD H b ∧ R b := ⟨a, rfl, .inl ⟨kvs, .inl h⟩, q⟩
theorem JarAt.isD {R : Addr → Prop} (h : JarAt H a n c) (q : R a) : ∃ b, V.ref a = .ref b ∧ IsD H b ∧ R b := let ⟨_, e, _⟩ := h; r_isD e q
theorem JarAt.dget0 (h : JarAt H a n c) (k : Int) : ∃ o, DGet H a (.int k) o ∧ o.getD (.int 0) = .int (c k) := by
  obtain ⟨kvs, e, hk, _, hc⟩ := h
  exact ⟨_, DGet.k (k := .inl k) e, by rw [hk.val, hc]⟩
theorem JarAt.dput {k v : Int} (h : JarAt H a n c) (hn : n ≤ 1000000) : ∃ H', DPut H a (.int k) (.int v) H' ∧ But a H H' ∧ (∀ p, H p = none → p ≠ a → H' p = none) ∧ JarAt H' a (n + 1) (addAt c k v) := by
  obtain ⟨kvs, e, hk, hl, hc⟩ := h
  refine ⟨_, DPut.k (k := .inl k) e (Nat.lt_of_le_of_lt (Nat.le_trans hl hn) (by decide)), But.self (But.refl a H), fun p hp np => (upd_ne np).trans hp, _, upd_same, hk.put k v, ?_, fun j => ?_⟩
  · exact Nat.le_trans (length_putK _ _ _) (by omega)
  · rw [cfK_put, hc]; rfl
theorem JarAt.dget {k : Int} (h : JarAt H a n c) (m : JarHas H a k) : DGet H a (.int k) (some (.int (c k))) := by
  obtain ⟨kvs, e, hk, _, hc⟩ := h
  obtain ⟨kvs', e', hm⟩ := m
  cases e.symm.trans e'
  have := DGet.k (k := .inl k) e
  rw [hk.some hm, hc] at this
  exact this
theorem rSortDJ (h : JarAt H a n c) (q : ∀ (ys : List Int) (p : Addr), ys.Pairwise (· < ·) → (∀ k, ¬ k ∈ ys → c k = 0) → ys.length ≤ n → (∀ k ∈ ys, JarHas H a k) → H p = none → Q (.ref p) (upd H p (.lst (ys.map V.int)))) : rSortDI [.ref a] H Q := by
  obtain ⟨kvs, e, hk, hl, hc⟩ := h
  obtain ⟨ks, e1, e2, e3, e4⟩ := hk.keys
  refine ⟨a, kvs, ks, rfl, .inl e, e1, fun ys p hp hs hn => q ys p ?_ (fun k hy => ?_) ?_ (fun k hy => ?_) hn⟩
  · have nd : ys.Nodup := hp.nodup_iff.mpr e2
    have : ys.Pairwise fun x y => x ≤ y ∧ x ≠ y := List.Pairwise.and hs nd
    exact this.imp fun h => by omega
  · rw [← hc]
    exact e3 k fun hm => hy (hp.mem_iff.mpr hm)
  · rw [hp.length_eq, e4]; exact hl
  · exact ⟨kvs, e, by rw [e1]; exact List.mem_map.mpr ⟨k, hp.mem_iff.mp hy, rfl⟩⟩
end
/-- pairs of ints, laid as tuples -/
def TermsL (H : Hp) : List V → Terms → Prop
  | [], ts => ts = []
  | v :: vs, ts => ∃ b p us, ts = p :: us ∧ v = .ref b ∧ H b = some (.tup [.int p.1, .int p.2]) ∧ TermsL H vs us
theorem TermsL.tk {H H' : Hp} (t : Tk H H') : ∀ {vs : List V} {ts : Terms}, TermsL H vs ts → TermsL H' vs ts
  | [], _, h => h
  | _ :: _, _, ⟨b, p, us, e1, e2, e3, e4⟩ => ⟨b, p, us, e1, e2, t _ _ e3, e4.tk t⟩
theorem TermsL.app {H : Hp} : ∀ {vs ws : List V} {ts us : Terms}, TermsL H vs ts → TermsL H ws us → TermsL H (vs ++ ws) (ts ++ us)
  | [], ws, ts, us, h, h' => by rw [show ts = [] from h]; exact h'
  | _ :: _, ws, _, us, ⟨b, p, qs, e1, e2, e3, e4⟩, h' => ⟨b, p, qs ++ us, by rw [e1]; rfl, e2, e3, e4.app h'⟩
theorem TermsL.length {H : Hp} : ∀ {vs : List V} {ts : Terms}, TermsL H vs ts → vs.length = ts.length
  | [], ts, h => by rw [show ts = [] from h]; rfl
  | _ :: _, _, ⟨b, p, qs, e1, e2, e3, e4⟩ => by rw [e1, List.length_cons, List.length_cons, e4.length]
theorem TermsL.one {H : Hp} {b : Addr} {x y : Int} (h : H b = some (.tup [.int x, .int y])) : TermsL H [.ref b] [(x, y)] := ⟨b, (x, y), [], rfl, rfl, h, rfl⟩
theorem TermsL.at {H : Hp} : ∀ {vs : List V} {ts : Terms} (i : Nat) {v : V}, TermsL H vs ts → vs[i]? = some v → ∃ b p, v = .ref b ∧ ts[i]? = some p ∧ H b = some (.tup [.int p.1, .int p.2])
  | [], _, _, _, _, h => by cases h
  | _ :: _, _, 0, _, ⟨b, p, qs, e1, e2, e3, e4⟩, h => by
    cases h
    exact ⟨b, p, e2, by rw [e1]; rfl, e3⟩
  | _ :: _, _, i + 1, v, ⟨b, p, qs, e1, e2, e3, e4⟩, h => by
    obtain ⟨b', p', x1, x2, x3⟩ := TermsL.at i e4 h
    exact ⟨b', p', x1, by rw [e1]; exact x2, x3⟩
/-- a list of pairs of ints -/
def TermsAt (H : Hp) (l : Addr) (ts : Terms) : Prop := ∃ vs, H l = some (.lst vs) ∧ TermsL H vs ts
theorem TermsAt.same {H H' : Hp} {l : Addr} {ts : Terms} (h : TermsAt H l ts) (s : Same H H') : TermsAt H' l ts := let ⟨vs, e, e2⟩ := h; ⟨vs, s _ _ e, e2.tk (Tk.same s)⟩
theorem TermsAt.nil {H : Hp} {l : Addr} (h : TermsAt H l []) : H l = some (.lst []) := by
  obtain ⟨as, e, e2⟩ := h
  cases as with
  | nil => exact e
  | cons a r => obtain ⟨_, _, _, e, _⟩ := e2; cases e
/-! ### the same as data -/
def pairD (p : Int × Int) : PyData := .tuple [.int p.1, .int p.2]
theorem TermsL.dp {K : PySem.W.Frag} {H : Hp} : ∀ {vs : List V} {ts : Terms}, TermsL H vs ts → DpAll K H vs (ts.map pairD)
  | [], ts, h => by rw [show ts = [] from h]; exact .nil
  | _ :: _, _, ⟨b, p, qs, e1, e2, e3, e4⟩ => by
    subst e1 e2
    exact .cons (.tup (.of e3) (.cons (.int _) (.cons (.int _) .nil))) e4.dp
theorem TermsAt.dp {K : PySem.W.Frag} {H : Hp} {l : Addr} {ts : Terms} (h : TermsAt H l ts) : Dp K H (.ref l) (.list (ts.map pairD)) := let ⟨_, e, e2⟩ := h; .lst (.of e) e2.dp
theorem eqv_pair (p q : Int × Int) : PyData.eqv (pairD p) (pairD q) = decide (p = q) := by
  obtain ⟨a, b⟩ := p
  obtain ⟨c, d⟩ := q
  have e : decide ((a, b) = (c, d)) = (decide (a = c) && decide (b = d)) := by
    rw [← Bool.decide_and]
    simp
  rw [e]
  simp [pairD, PyData.eqv, PyData.eqvAll]
  by_cases h1 : a = c <;> by_cases h2 : b = d <;> simp [h1, h2]
theorem eqvAll_pairs : ∀ (ts us : Terms), PyData.eqvAll (ts.map pairD) (us.map pairD) = decide (ts = us)
  | [], [] => by simp [PyData.eqvAll]
  | [], _ :: _ => by simp [PyData.eqvAll]
  | _ :: _, [] => by simp [PyData.eqvAll]
  | p :: ts, q :: us => by
    rw [List.map_cons, List.map_cons, PyData.eqvAll, eqv_pair, eqvAll_pairs ts us, ← Bool.decide_and]
    simp
theorem eqv_terms (ts us : Terms) : PyData.eqv (.list (ts.map pairD)) (.list (us.map pairD)) = decide (ts = us) := by
  rw [PyData.eqv]; exact eqvAll_pairs ts us
/-- data that == can walk -/
def Lay (n : Nat) (d : PyData) : Prop := d.canLay0 = true ∧ d.depth ≤ n
theorem Lay.mono {m n : Nat} {d : PyData} (h : Lay m d) (l : m ≤ n) : Lay n d := ⟨h.1, Nat.le_trans h.2 l⟩
theorem layAll {n : Nat} : ∀ {xs : List PyData}, (∀ x ∈ xs, Lay n x) → PyData.canLayAll0 xs = true ∧ PyData.depthAll xs ≤ n
  | [], _ => by simp [PyData.canLayAll0, PyData.depthAll]
  | x :: xs, h => by
    obtain ⟨h1, h2⟩ := h x List.mem_cons_self
    obtain ⟨h3, h4⟩ := layAll fun y hy => h y (List.mem_cons_of_mem _ hy)
    rw [PyData.canLayAll0, PyData.depthAll, h1, h3]
    exact ⟨rfl, Nat.max_le.mpr ⟨h2, h4⟩⟩
theorem Lay.list {n : Nat} {xs : List PyData} (h : ∀ x ∈ xs, Lay n x) : Lay (n + 1) (.list xs) := by
  obtain ⟨h1, h2⟩ := layAll h
  exact ⟨by rw [PyData.canLay0]; exact h1, by rw [PyData.depth]; omega⟩
theorem Lay.tuple {n : Nat} {xs : List PyData} (h : ∀ x ∈ xs, Lay n x) : Lay (n + 1) (.tuple xs) := by
  obtain ⟨h1, h2⟩ := layAll h
  exact ⟨by rw [PyData.canLay0]; exact h1, by rw [PyData.depth]; omega⟩
theorem Lay.int {n : Nat} (i : Int) : Lay n (.int i) := ⟨by simp [PyData.canLay0], by simp [PyData.depth]⟩
theorem Lay.shaped {n : Nat} {d : PyData} (h : Lay n d) (l : n ≤ 64) : SeqAt.shaped d = true := by
  unfold SeqAt.shaped
  rw [h.1, decide_eq_true (Nat.le_trans h.2 l)]
  rfl
theorem lay_pair (p : Int × Int) : Lay 1 (pairD p) := Lay.tuple fun x hx => by
  rcases List.mem_cons.mp hx with rfl | hx
  · exact .int _
  · rcases List.mem_cons.mp hx with rfl | hx
    · exact .int _
    · cases hx
theorem lay_terms (ts : Terms) : Lay 2 (.list (ts.map pairD)) := Lay.list fun x hx => by
  obtain ⟨p, _, rfl⟩ := List.mem_map.mp hx
  exact lay_pair p
theorem shaped_terms (ts : Terms) : SeqAt.shaped (.list (ts.map pairD)) = true := (lay_terms ts).shaped (by decide)
theorem free_upd {H : Hp} {p D : Addr} {o : HO} (h : upd H p o D = none) : H D = none := by
  by_cases e : D = p
  · subst e; rw [upd_same] at h; cases h
  · rw [upd_ne e] at h; exact h
theorem free_same {H H' : Hp} {D : Addr} (s : Same H H') (h : H' D = none) : H D = none := by
  cases e : H D with
  | none => rfl
  | some o => rw [s _ _ e] at h; cases h
section
variable {X : Cx} {K : PySem.W.Frag}
theorem op_eqDK (hu : X.A.units + 64 < cLine) (h : X.K = K := by rfl) : OpR X (compareOp .Eq) (rEqD K) := by subst h; exact op_eqD hu
theorem op_neDK (hu : X.A.units + 64 < cLine) (h : X.K = K := by rfl) : OpR X (compareOp .NotEq) (rNeD K) := by subst h; exact op_neD hu
theorem op_in_seqK (h : X.K = K := by rfl) : OpR X (compareOp .In) (rIn K false) := by subst h; exact op_in_seq
end
theorem r_neT {K : PySem.W.Frag} {H : Hp} {Q : VK} {l m : Addr} {ts us : Terms} (h : TermsAt H l ts) (h' : TermsAt H m us) (q : Q (.bl (!decide (ts = us))) H) : rNeD K (.ref l) (.ref m) H Q :=
  ⟨_, _, h.dp, h'.dp, shaped_terms ts, shaped_terms us, by rw [eqv_terms]; exact q⟩
theorem r_eqT {K : PySem.W.Frag} {H : Hp} {Q : VK} {l m : Addr} {ts us : Terms} (h : TermsAt H l ts) (h' : TermsAt H m us) (q : Q (.bl (decide (ts = us))) H) : rEqD K (.ref l) (.ref m) H Q :=
  ⟨_, _, h.dp, h'.dp, shaped_terms ts, shaped_terms us, by rw [eqv_terms]; exact q⟩
theorem TermsAt.none {H : Hp} {l : Addr} (h : H l = some (.lst [])) : TermsAt H l [] := ⟨[], h, rfl⟩
def spTerms : Sp := fun vs H Q _ => ∃ (a : Addr) (n : Nat) (c : Int → Int), vs = [.ref a] ∧ JarAt H a n c ∧ n ≤ 90000 ∧
  ∀ l ts H', H l = none → Same H H' → Canon ts → (∀ k, cof ts k = c k) → ts.length ≤ n → TermsAt H' l ts → Q (.ref l) H'
/-! ### is not None -/
def rNotNN : R2 := fun x y H Q => y = .non ∧ Q (.bl (!decide (x = .non))) H
theorem r_notNN {H : Hp} {Q : VK} (q : Q (.bl false) H) : rNotNN .non .non H Q := ⟨rfl, by rw [decide_eq_true rfl]; exact q⟩
theorem r_notNR {H : Hp} {Q : VK} {a : Addr} (q : Q (.bl true) H) : rNotNN (.ref a) .non H Q := ⟨rfl, by rw [decide_eq_false (by intro h; cases h)]; exact q⟩
end My

set_option Elab.async false
set_option linter.all false
set_option maxRecDepth 100000
set_option maxHeartbeats 4000000
namespace My
open PySem PySem.Spec PyProof.Rows L2
section
variable {P : Program} {w : World} {A : Around} {E : Value → Shared → Prop} {s : Shared}
end
end My

set_option Elab.async false
set_option linter.all false
set_option maxRecDepth 100000
set_option maxHeartbeats 4000000
namespace My
open PySem PySem.Spec PyProof.Rows L2
section
variable {X : Cx}
end
end My

set_option Elab.async false
set_option linter.all false
set_option maxRecDepth 100000
set_option maxHeartbeats 4000000
namespace My
open PySem PySem.Spec PyProof.Rows L2
/-! ### sets of texts: what LibOt and LibOs have for ints -/
abbrev kS (P : Program) (w : World) := PySem.strKind P w
def txtOf (e : Int × Value) : Str := match e.2 with | .str k _ => k | _ => Str.empty
def TxtE (P : Program) (w : World) (e : Int × Value) : Prop := ∃ k tk, e.2 = Value.str k tk ∧ e.1 = (kS P w).hash k
/-- the set of texts at a -/
def TxtSet (P : Program) (w : World) (h : Heap) (a : Addr) (S : Str → Bool) (n : Nat) : Prop :=
  ∃ o es ep t, h.get? a = some o ∧ o.ExactSet ∧ o.data = .set es ep t ∧ (∀ e ∈ es.toList, TxtE P w e) ∧ (es.toList.map txtOf).Nodup ∧ (∀ k, S k = true ↔ k ∈ es.toList.map txtOf) ∧
    es.size < scanBound ∧ t.fits es.size = true ∧ es.size = n ∧ Ris t.place.toList ∧ (w.params.followText "set-order" = true ∨ t.led = true)
section
variable {P : Program} {w : World} {h h' : Heap} {a : Addr} {S : Str → Bool} {n : Nat}
theorem TxtSet.at (R : TxtSet P w h a S n) (k : ∀ o, h.get? a = some o → h'.get? a = some o) : TxtSet P w h' a S n := by
  obtain ⟨o, es, ep, t, ho, r⟩ := R
  exact ⟨o, es, ep, t, k o ho, r⟩
theorem TxtSet.congr {S' : Str → Bool} (R : TxtSet P w h a S n) (e : ∀ k, S' k = S k) : TxtSet P w h a S' n := by
  obtain rfl : S' = S := funext e
  exact R
end
section
variable {P : Program} {w : World} {A : Around} {E : Value → Shared → Prop} {s : Shared} {a : Addr} {S : Str → Bool} {n : Nat}
end
section
variable {X : Cx}
end
end My

set_option Elab.async false
set_option linter.all false
set_option maxRecDepth 100000
namespace My
open PySem PySem.Spec PyProof.Rows L2
/-! ### the way of a flat program -/
def stepSign (w : Str) : Int := if w = "back" ∨ w = "slip" then -1 else 1
namespace Prog
/-- the number of the name n at the power k, the way begun at the heading h -/
def wcf : Int → Prog → Str → Int → Int
  | _, .nil, _, _ => 0
  | h, .step w m r, n, k => (if m = n ∧ h = k then stepSign w else 0) + wcf h r n k
  | h, .turn t r, n, k => wcf (h + t) r n k
  | _, .rep _ _ _, _, _ => 0
  | _, .mir _ _, _, _ => 0
theorem wcf_app {L : Nat} {C T : Int} : ∀ {p : Prog} (q : Prog) (h : Int) (n : Str) (k : Int), WfL L C T 0 p → wcf h (p.app q) n k = wcf h p n k + wcf (h + p.head) q n k
  | .nil, q, h, n, k, _ => by rw [app, wcf, head, Int.zero_add, Int.add_zero]
  | .step w m r, q, h, n, k, hw => by rw [app, wcf, wcf, wcf_app q h n k (WfL.step_iff.mp hw).2.2, head]; omega
  | .turn t r, q, h, n, k, hw => by rw [app, wcf, wcf, wcf_app q (h + t) n k (WfL.turn_iff.mp hw).2, head, Int.add_assoc]
  | .rep _ _ _, q, h, n, k, hw => hw.elim
  | .mir _ _, q, h, n, k, hw => hw.elim
end Prog
/-! ### names: at most 26 -/
theorem names_few {ks : List Str} (h : ∀ n ∈ ks, IsName n) (nd : ks.Nodup) : ks.length < 64 := by
  have hp : ∀ (ks : List Str), (∀ n ∈ ks, IsName n) → ks.Nodup → ∃ cs : List Nat, cs.length = ks.length ∧ cs.Nodup ∧ (∀ c ∈ cs, 97 ≤ c ∧ c ≤ 122 ∧ (⟨#[c]⟩ : Str) ∈ ks) := by
    intro ks
    induction ks with
    | nil => intro _ _; exact ⟨[], rfl, by simp, by simp⟩
    | cons n ks ih =>
      intro h nd
      obtain ⟨hn, nd⟩ := List.nodup_cons.mp nd
      obtain ⟨cs, e1, e2, e3⟩ := ih (fun m hm => h m (List.mem_cons_of_mem _ hm)) nd
      obtain ⟨c, rfl, c1, c2⟩ := h n List.mem_cons_self
      refine ⟨c :: cs, by simp [e1], List.nodup_cons.mpr ⟨fun hc => hn (e3 c hc).2.2, e2⟩, fun d hd => ?_⟩
      rcases List.mem_cons.mp hd with rfl | hd
      · exact ⟨c1, c2, List.mem_cons_self⟩
      · exact ⟨(e3 d hd).1, (e3 d hd).2.1, List.mem_cons_of_mem _ (e3 d hd).2.2⟩
  obtain ⟨cs, e1, e2, e3⟩ := hp ks h nd
  have key : ∀ (xs ys : List Nat), xs.Nodup → (∀ x ∈ xs, x ∈ ys) → xs.length ≤ ys.length := by
    intro xs
    induction xs with
    | nil => intro ys _ _; exact Nat.zero_le _
    | cons x xs ih =>
      intro ys hn hs
      have hx := hs x List.mem_cons_self
      obtain ⟨hxn, hn⟩ := List.nodup_cons.mp hn
      have h1 := ih (ys.erase x) hn fun z hz => (List.mem_erase_of_ne (by rintro rfl; exact hxn hz)).mpr (hs z (List.mem_cons_of_mem _ hz))
      rw [List.length_erase_of_mem hx] at h1
      have h2 := List.length_pos_of_mem hx
      rw [List.length_cons]
      omega
  have := key cs (List.range 123) e2 fun x hx => List.mem_range.mpr (by have := e3 x hx; omega)
  have h2 := key cs ((List.range 26).map (· + 97)) e2 fun x hx => List.mem_map.mpr ⟨x - 97, List.mem_range.mpr (by have := e3 x hx; omega), by have := e3 x hx; omega⟩
  rw [List.length_map, List.length_range] at h2
  omega
/-! ### a dict of jars by names -/
def spotKvs (ws : List (Str × Addr)) : List (Key × V) := ws.map fun e => (Sum.inr e.1, V.ref e.2)
structure Spot (H0 H : Hp) (s : Addr) (N : Nat) (c : Str → Int → Int) (ws : List (Str × Addr)) : Prop where
  at_ : H s = some (.dK (spotKvs ws))
  nd : (ws.map (·.1)).Nodup
  ndA : (ws.map (·.2)).Nodup
  name : ∀ e ∈ ws, IsName e.1
  new : H0 s = none
  news : ∀ e ∈ ws, H0 e.2 = none ∧ e.2 ≠ s
  jars : ∀ e ∈ ws, JarAt H e.2 N (c e.1)
  none_ : ∀ n, ¬ n ∈ ws.map (·.1) → ∀ k, c n k = 0
  same : Same H0 H
theorem JarAt.le {H : Hp} {a : Addr} {n m : Nat} {c : Int → Int} (h : JarAt H a n c) (l : n ≤ m) : JarAt H a m c := let ⟨kvs, e, r1, r2, r3⟩ := h; ⟨kvs, e, r1, Nat.le_trans r2 l, r3⟩
theorem spot_val {ws : List (Str × Addr)} {n : Str} {v : V} (h : valV (spotKvs ws) (.inr n) = some v) : ∃ j, v = .ref j ∧ (n, j) ∈ ws := by
  have := val_mem h
  obtain ⟨e, he, e2⟩ := List.mem_map.mp this
  cases e2
  exact ⟨_, rfl, he⟩
theorem spot_none {ws : List (Str × Addr)} {n : Str} (h : valV (spotKvs ws) (.inr n) = none) : ¬ n ∈ ws.map (·.1) := by
  intro hm
  obtain ⟨e, he, e2⟩ := List.mem_map.mp hm
  exact val_none h (Sum.inr e.1, V.ref e.2) (List.mem_map.mpr ⟨e, he, rfl⟩) (congrArg Sum.inr e2)
theorem spot_some {ws : List (Str × Addr)} {n : Str} (h : n ∈ ws.map (·.1)) : ∃ j, valV (spotKvs ws) (.inr n) = some (.ref j) ∧ (n, j) ∈ ws := by
  cases e : valV (spotKvs ws) (.inr n) with
  | none => exact absurd h (spot_none e)
  | some v =>
    obtain ⟨j, rfl, hj⟩ := spot_val e
    exact ⟨j, rfl, hj⟩
theorem Spot.empty {H : Hp} {s : Addr} (h : H s = none) : Spot H (upd H s (.dK [])) s 0 (fun _ _ => 0) [] :=
  ⟨upd_same, by simp, by simp, by simp, h, by simp, by simp, fun _ _ _ => rfl, Same.new0 h⟩
theorem Spot.later {H0 H H' : Hp} {s : Addr} {N : Nat} {c : Str → Int → Int} {ws : List (Str × Addr)} (h : Spot H0 H s N c ws) (k : Same H H') : Spot H0 H' s N c ws :=
  ⟨k _ _ h.at_, h.nd, h.ndA, h.name, h.new, h.news, fun e he => (h.jars e he).same k, h.none_, h.same.trans k⟩
/-- the name's jar: found or put in -/
theorem Spot.setd {H0 H : Hp} {s d : Addr} {N : Nat} {c : Str → Int → Int} {ws : List (Str × Addr)} {n : Str} {Q : VK} (h : Spot H0 H s N c ws) (hn : IsName n) (hd : H d = none)
    (q : ∀ ws' j H', Spot H0 H' s N c ws' → (n, j) ∈ ws' → (∀ b o, b ≠ s → H b = some o → H' b = some o) → Q (.ref j) H') :
    ∃ (kvs : List (Key × V)) (k : Key), upd H d (.dK []) s = some (.dK kvs) ∧ V.str n = kV k ∧ kvs.length < sizeLine ∧ (∀ v, valV kvs k = some v → Q v (upd H d (.dK []))) ∧ (valV kvs k = none → Q (.ref d) (upd (upd H d (.dK [])) s (.dK (putK kvs k (.ref d))))) := by
  have h1 := h.later (Same.new0 (o := .dK []) hd)
  have few : (spotKvs ws).length < 64 := by
    have := names_few (ks := ws.map (·.1)) (fun n hn => by obtain ⟨e, he, rfl⟩ := List.mem_map.mp hn; exact h.name e he) h.nd
    simpa [spotKvs] using this
  refine ⟨spotKvs ws, .inr n, h1.at_, rfl, Nat.lt_trans few (by decide), fun v hv => ?_, fun hv => ?_⟩
  · obtain ⟨j, rfl, hj⟩ := spot_val hv
    exact q ws j _ h1 hj fun b o _ e => h_keep e hd
  · have hnn := spot_none hv
    have ds : d ≠ s := (ne_of_none h.at_ hd).symm
    rw [putK_new _ hv]
    have e : spotKvs ws ++ [(Sum.inr n, V.ref d)] = spotKvs (ws ++ [(n, d)]) := by simp [spotKvs]
    rw [e]
    refine q (ws ++ [(n, d)]) d _ ⟨upd_same, ?_, ?_, ?_, h.new, ?_, ?_, ?_, ?_⟩ (by simp) fun b o nb eb => (upd_ne nb).trans (h_keep eb hd)
    · rw [List.map_append]
      exact List.nodup_append.mpr ⟨h.nd, by simp, fun a ha b hb eab => by
        have hb := List.mem_singleton.mp hb
        rw [eab, hb] at ha
        exact hnn ha⟩
    · rw [List.map_append]
      refine List.nodup_append.mpr ⟨h.ndA, by simp, fun a ha b hb e => ?_⟩
      have hb := List.mem_singleton.mp hb
      subst hb
      obtain ⟨x, hx, rfl⟩ := List.mem_map.mp ha
      obtain ⟨_, e2, _⟩ := h.jars x hx
      exact absurd e (ne_of_none e2 hd)
    · intro x hx
      rcases List.mem_append.mp hx with hx | hx
      · exact h.name x hx
      · rw [List.mem_singleton.mp hx]; exact hn
    · intro x hx
      rcases List.mem_append.mp hx with hx | hx
      · exact h.news x hx
      · rw [List.mem_singleton.mp hx]
        exact ⟨free_same h.same hd, ds⟩
    · intro x hx
      rcases List.mem_append.mp hx with hx | hx
      · obtain ⟨kvs, e1, r⟩ := h1.jars x hx
        exact ⟨kvs, (upd_ne (h.news x hx).2).trans e1, r⟩
      · rw [List.mem_singleton.mp hx]
        refine ⟨[], (upd_ne ds).trans upd_same, .nil, Nat.zero_le _, fun k => ?_⟩
        exact (h.none_ n hnn k).symm
    · intro m hm k
      refine h.none_ m (fun hc => hm ?_) k
      rw [List.map_append]
      exact List.mem_append.mpr (.inl hc)
    · exact fun b o eb => (upd_ne (ne_of_none eb h.new)).trans (h_keep (h.same _ _ eb) hd)
/-- the name's jar changed -/
theorem Spot.put {H0 H H' : Hp} {s j : Addr} {N : Nat} {c : Str → Int → Int} {ws : List (Str × Addr)} {n : Str} {k v : Int} (h : Spot H0 H s N c ws) (m : (n, j) ∈ ws) (b : But j H H') (hj : JarAt H' j (N + 1) (addAt (c n) k v)) :
    Spot H0 H' s (N + 1) (fun n' k' => if n' = n ∧ k' = k then v else c n' k') ws := by
  have hjs := h.news _ m
  have one : ∀ e ∈ ws, e.1 = n ↔ e.2 = j := by
    intro e he
    constructor
    · intro e1
      have : ∀ (l : List (Str × Addr)), (l.map (·.1)).Nodup → ∀ x ∈ l, ∀ y ∈ l, x.1 = y.1 → x = y := by
        intro l
        induction l with
        | nil => intro _ x hx; cases hx
        | cons z l ih =>
          intro nd x hx y hy exy
          obtain ⟨hz, nd⟩ := List.nodup_cons.mp nd
          rcases List.mem_cons.mp hx with rfl | hx2
          · rcases List.mem_cons.mp hy with rfl | hy2
            · rfl
            · exact absurd (List.mem_map.mpr ⟨y, hy2, exy.symm⟩) hz
          · rcases List.mem_cons.mp hy with rfl | hy2
            · exact absurd (List.mem_map.mpr ⟨x, hx2, exy⟩) hz
            · exact ih nd x hx2 y hy2 exy
      exact congrArg (·.2) (this ws h.nd e he (n, j) m e1)
    · intro e1
      have : ∀ (l : List (Str × Addr)), (l.map (·.2)).Nodup → ∀ x ∈ l, ∀ y ∈ l, x.2 = y.2 → x = y := by
        intro l
        induction l with
        | nil => intro _ x hx; cases hx
        | cons z l ih =>
          intro nd x hx y hy exy
          obtain ⟨hz, nd⟩ := List.nodup_cons.mp nd
          rcases List.mem_cons.mp hx with rfl | hx2
          · rcases List.mem_cons.mp hy with rfl | hy2
            · rfl
            · exact absurd (List.mem_map.mpr ⟨y, hy2, exy.symm⟩) hz
          · rcases List.mem_cons.mp hy with rfl | hy2
            · exact absurd (List.mem_map.mpr ⟨x, hx2, exy⟩) hz
            · exact ih nd x hx2 y hy2 exy
      exact congrArg (·.1) (this ws h.ndA e he (n, j) m e1)
  refine ⟨b _ _ (fun e => hjs.2 e.symm) h.at_, h.nd, h.ndA, h.name, h.new, h.news, fun e he => ?_, fun m' hm k' => ?_, fun x o ex => b _ _ (ne_of_none ex hjs.1) (h.same _ _ ex)⟩
  · by_cases e1 : e.1 = n
    · rw [(one e he).mp e1, e1]
      refine hj.ext fun k' => ?_
      unfold addAt
      by_cases e2 : k' = k
      · rw [if_pos e2, if_pos ⟨rfl, e2⟩]
      · rw [if_neg e2, if_neg fun h => e2 h.2]
    · refine (((h.jars e he).but (fun e2 => e1 ((one e he).mpr e2)) b).le (Nat.le_succ _)).ext fun k' => ?_
      rw [if_neg fun h => e1 h.1]
  · rw [if_neg]
    · exact h.none_ m' hm k'
    · rintro ⟨rfl, _⟩
      exact hm (List.mem_map.mpr ⟨_, m, rfl⟩)
theorem Spot.dget {H0 H : Hp} {s : Addr} {N : Nat} {c : Str → Int → Int} {ws : List (Str × Addr)} {n : Str} {v : V} (h : Spot H0 H s N c ws) (e : valV (spotKvs ws) (.inr n) = some v) : DGet H s (.str n) (some v) := by
  have := DGet.k (k := .inr n) h.at_
  rw [e] at this
  exact this
theorem inWord {w : Str} (h : IsWord w) : inV (.str w) [.str "back", .str "slip"] = decide (w = "back" ∨ w = "slip") := by
  rcases h with rfl | rfl | rfl | rfl <;> decide +kernel
/-! ### names in sequence -/
def ncode (n : Str) : Nat := n.cps.toList.headD 0
theorem ncode_lt {a b : Str} (ha : IsName a) (hb : IsName b) : ltCps a.cps.toList b.cps.toList = decide (ncode a < ncode b) := by
  obtain ⟨x, rfl, _⟩ := ha
  obtain ⟨y, rfl, _⟩ := hb
  rw [ltCps_eq]
  show decide ([x] < [y]) = decide (x < y)
  by_cases h : x < y
  · rw [decide_eq_true h, decide_eq_true (by simpa [List.cons_lt_cons_iff] using h)]
  · rw [decide_eq_false h, decide_eq_false (by simpa [List.cons_lt_cons_iff] using h)]
theorem ncode_inj {a b : Str} (ha : IsName a) (hb : IsName b) (e : ncode a = ncode b) : a = b := by
  obtain ⟨x, rfl, _⟩ := ha
  obtain ⟨y, rfl, _⟩ := hb
  have e : x = y := e
  rw [e]
theorem rising_names : ∀ {p : Str} {l : List Str}, IsName p → (∀ n ∈ l, IsName n) → risingS p l = true → (∀ n ∈ l, ncode p ≤ ncode n) ∧ l.Pairwise fun a b => ncode a ≤ ncode b
  | p, [], _, _, _ => ⟨by simp, .nil⟩
  | p, x :: r, hp, hl, h => by
    have hx := hl x List.mem_cons_self
    have hr : ∀ n ∈ r, IsName n := fun n hn => hl n (List.mem_cons_of_mem _ hn)
    rw [risingS, Bool.and_eq_true, ncode_lt hx hp] at h
    have h1 : ncode p ≤ ncode x := by
      have := h.1
      simp at this
      exact this
    obtain ⟨h2, h3⟩ := rising_names hx hr h.2
    refine ⟨fun n hn => ?_, List.pairwise_cons.mpr ⟨h2, h3⟩⟩
    rcases List.mem_cons.mp hn with rfl | hn
    · exact h1
    · exact Nat.le_trans h1 (h2 n hn)
theorem sorted_names {l : List Str} (hl : ∀ n ∈ l, IsName n) (nd : l.Nodup) (h : sortedS l = true) : l.Pairwise fun a b => ncode a < ncode b := by
  have h1 : l.Pairwise fun a b => ncode a ≤ ncode b := by
    cases l with
    | nil => exact .nil
    | cons p r =>
      obtain ⟨h1, h2⟩ := rising_names (hl p List.mem_cons_self) (fun n hn => hl n (List.mem_cons_of_mem _ hn)) h
      exact List.pairwise_cons.mpr ⟨h1, h2⟩
  have h2 := List.Pairwise.and h1 nd
  refine h2.imp_of_mem fun {a b} ha hb h => ?_
  have hne : ncode a ≠ ncode b := fun e => h.2 (ncode_inj (hl a ha) (hl b hb) e)
  have := h.1
  omega
theorem asc_ext {α : Type} (f : α → Nat) : ∀ {l m : List α}, l.Pairwise (fun a b => f a < f b) → m.Pairwise (fun a b => f a < f b) → (∀ x, x ∈ l ↔ x ∈ m) → l = m
  | [], [], _, _, _ => rfl
  | a :: l, [], _, _, h => absurd ((h a).mp List.mem_cons_self) (by simp)
  | [], b :: m, _, _, h => absurd ((h b).mpr List.mem_cons_self) (by simp)
  | a :: l, b :: m, hl, hm, h => by
    obtain ⟨h1, h2⟩ := List.pairwise_cons.mp hl
    obtain ⟨h3, h4⟩ := List.pairwise_cons.mp hm
    have e : a = b := by
      rcases List.mem_cons.mp ((h a).mp List.mem_cons_self) with e | ha
      · exact e
      · rcases List.mem_cons.mp ((h b).mpr List.mem_cons_self) with e | hb
        · exact e.symm
        · have := h1 b hb
          have := h3 a ha
          omega
    subst e
    rw [asc_ext f h2 h4 fun x => ⟨fun hx => ?_, fun hx => ?_⟩]
    · rcases List.mem_cons.mp ((h x).mp (List.mem_cons_of_mem _ hx)) with rfl | q
      · exact absurd (h1 _ hx) (Nat.lt_irrefl _)
      · exact q
    · rcases List.mem_cons.mp ((h x).mpr (List.mem_cons_of_mem _ hx)) with rfl | q
      · exact absurd (h3 _ hx) (Nat.lt_irrefl _)
      · exact q
/-! ### places -/
abbrev Pl := List (Str × Terms)
def PlaceL (F : Addr → Prop) (H : Hp) : List V → Pl → Prop
  | [], pl => pl = []
  | v :: vs, pl => ∃ b l e us, pl = e :: us ∧ v = .ref b ∧ H b = some (.tup [.str e.1, .ref l]) ∧ F l ∧ TermsAt H l e.2 ∧ PlaceL F H vs us
section
variable {F : Addr → Prop}
theorem PlaceL.same {H H' : Hp} (t : Same H H') : ∀ {vs : List V} {pl : Pl}, PlaceL F H vs pl → PlaceL F H' vs pl
  | [], _, h => h
  | _ :: _, _, ⟨b, l, e, us, e1, e2, e3, e4, e5, e6⟩ => ⟨b, l, e, us, e1, e2, t _ _ e3, e4, e5.same t, e6.same t⟩
theorem PlaceL.all {H : Hp} : ∀ {vs : List V} {pl : Pl}, PlaceL F H vs pl → PlaceL (fun _ => True) H vs pl
  | [], _, h => h
  | _ :: _, _, ⟨b, l, e, us, e1, e2, e3, e4, e5, e6⟩ => ⟨b, l, e, us, e1, e2, e3, trivial, e5, e6.all⟩
theorem PlaceL.lst {H : Hp} {D : Addr} {acc acc' : List V} (hD : H D = some (.lst acc)) : ∀ {vs : List V} {pl : Pl}, PlaceL (· ≠ D) H vs pl → PlaceL (· ≠ D) (upd H D (.lst acc')) vs pl
  | [], _, h => h
  | _ :: _, _, ⟨b, l, e, us, e1, e2, e3, e4, ⟨ws, e5, e7⟩, e6⟩ => ⟨b, l, e, us, e1, e2, (Tk.refl H).lst hD _ _ e3, e4, ⟨ws, (upd_ne e4).trans e5, e7.tk ((Tk.refl H).lst hD)⟩, e6.lst hD⟩
theorem PlaceL.app {H : Hp} : ∀ {vs ws : List V} {ts us : Pl}, PlaceL F H vs ts → PlaceL F H ws us → PlaceL F H (vs ++ ws) (ts ++ us)
  | [], ws, ts, us, h, h' => by rw [show ts = [] from h]; exact h'
  | _ :: _, ws, _, us, ⟨b, l, e, qs, e1, e2, e3, e4, e5, e6⟩, h' => ⟨b, l, e, qs ++ us, by rw [e1]; rfl, e2, e3, e4, e5, e6.app h'⟩
theorem PlaceL.length {H : Hp} : ∀ {vs : List V} {ts : Pl}, PlaceL F H vs ts → vs.length = ts.length
  | [], ts, h => by rw [show ts = [] from h]; rfl
  | _ :: _, _, ⟨b, l, e, qs, e1, e2, e3, e4, e5, e6⟩ => by rw [e1, List.length_cons, List.length_cons, e6.length]
end
/-- the place of the numbers c -/
structure IsPlace (pl : Pl) (c : Str → Int → Int) : Prop where
  canon : ∀ e ∈ pl, Canon e.2 ∧ e.2 ≠ [] ∧ ∀ k, cof e.2 k = c e.1 k
  names : ∀ e ∈ pl, IsName e.1
  asc : pl.Pairwise fun a b => ncode a.1 < ncode b.1
  rest : ∀ n, ¬ n ∈ pl.map (·.1) → ∀ k, c n k = 0
def PlaceAt (H : Hp) (l : Addr) (pl : Pl) : Prop := ∃ vs, H l = some (.lst vs) ∧ PlaceL (fun _ => True) H vs pl
theorem IsPlace.zero {pl : Pl} {c : Str → Int → Int} (h : IsPlace pl c) (z : ∀ n k, c n k = 0) : pl = [] := by
  cases pl with
  | nil => rfl
  | cons e r =>
    obtain ⟨h1, h2, h3⟩ := h.canon e List.mem_cons_self
    exact absurd (h1.zero fun k => (h3 k).trans (z _ _)) h2
theorem IsPlace.ext {pl ql : Pl} {c : Str → Int → Int} (h : IsPlace pl c) (k : IsPlace ql c) : pl = ql := by
  have key : ∀ {pl ql : Pl}, IsPlace pl c → IsPlace ql c → ∀ x, x ∈ pl → x ∈ ql := by
    intro pl ql h k x hx
    obtain ⟨h1, h2, h3⟩ := h.canon x hx
    have hm : x.1 ∈ ql.map (·.1) := by
      refine Decidable.byContradiction fun hn => h2 (h1.zero fun j => (h3 j).trans (k.rest _ hn j))
    obtain ⟨y, hy, e⟩ := List.mem_map.mp hm
    obtain ⟨k1, _, k3⟩ := k.canon y hy
    have e2 : x.2 = y.2 := h1.ext k1 fun j => by rw [h3, k3, e]
    have : x = y := Prod.ext e.symm e2
    rw [this]; exact hy
  exact asc_ext (fun e => ncode e.1) h.asc k.asc fun x => ⟨key h k x, key k h x⟩
end My

set_option Elab.async false
set_option linter.all false
set_option maxRecDepth 100000
namespace My
open PySem PySem.Spec PyProof.Rows L2
/-! ### methods of own classes, by their names -/
structure HasM (P : Program) (w : World) (K : PySem.W.Frag) (mg : Str → Option Value) (base : Heap) (C : Addr) (m : Str) (k : Nat) (ps : List Str) (sp : Sp) : Prop where
  ex : ∃ f fd, FnOk P w K mg base CX0 k f fd ps sp ∧ Meth K C m f ∧ Binds K fd ps []
theorem HasM.mono {P : Program} {w : World} {K : PySem.W.Frag} {mg : Str → Option Value} {base : Heap} {C : Addr} {m : Str} {j k : Nat} {ps : List Str} {sp : Sp} (h : HasM P w K mg base C m j ps sp) (hk : j ≤ k) : HasM P w K mg base C m k ps sp := by
  obtain ⟨f, fd, F, a, b⟩ := h.ex
  exact ⟨f, fd, F.mono hk, a, b⟩
section
variable {X : Cx} {pins : List (Addr × Obj)} {σ : L2.St} {H : Hp} {s : Shared} {Q : VK} {C : Addr} {m : Str} {k : Nat} {ps : List Str} {sp : Sp} {f : Addr} {fd : FuncData}
theorem run_m (F : FnOk X.prog X.w X.K X.mg X.base CX0 k f fd ps sp) (b : Binds X.K fd ps []) (hr : Room k X.A) (I : Inv X pins σ H s) {us : List Value} {vs : List V} (r : Vals vs us) (q : sp vs H Q E0) : wpAny (model X.prog X.w) X.A (call (.ref f) us) (EP X pins σ Q) X.xe s :=
  run_fn F hr b .nil pass0 I r (by rw [List.append_nil]; exact q)
theorem run_m1 (F : FnOk X.prog X.w X.K X.mg X.base CX0 k f fd ps sp) (b : Binds X.K fd ps []) (hr : Room (k + 1) X.A) (I : Inv X pins σ H s) {us : List Value} {vs : List V} (r : Vals vs us) (q : sp vs H Q E0) : wpAny (model X.prog X.w) X.A.in1 (call (.ref f) us) (EP X pins σ Q) X.xe s := by
  have hl : us.length = ps.length := by rw [← r.length]; exact F.len _ _ _ _ q
  refine wpAny_call (codeAny_mono (F.run X.A.in1 X.stack s H ⟨us, []⟩ us vs Q E0 hr.in1 I.env0.in1 (by simpa using b s us I.kIn (by simpa using hl)) r q) fun r s' hq => ?_)
  cases r with
  | error e => exact (pass0 (X := X)) pins σ H s e s' I hq
  | ok fl =>
    cases fl with
    | ret u => exact I.after hq
    | next => exact False.elim hq
    | brk => exact False.elim hq
    | cont => exact False.elim hq
/-- x op y, both instances of the class at C -/
def rOwn2 (C : Addr) (sp : Sp) : R2 := fun x y H Q => ∃ a dx fs b dy gs, x = .ref a ∧ y = .ref b ∧ H a = some (.ins C dx fs) ∧ H b = some (.ins C dy gs) ∧ sp [x, y] H Q E0
theorem op_own2 {op : Operator} (h : HasM X.prog X.w X.K X.mg X.base C m k ps sp) (hc : PySem.W.selfFirst X.K C = true) (hr : Room k X.A) (hm : PySem.dunder op.info.2 = m := by rfl) : OpR X (binaryOp op) (rOwn2 C sp) := by
  intro pins s σ H x y v u Q I rx ry q
  obtain ⟨f, fd, F, M, b⟩ := h.ex
  obtain ⟨a, dx, fs, a', dy, gs, rfl, rfl, ha, hb, q⟩ := q
  cases rx
  cases ry
  obtain ⟨mA, O, _⟩ := ins_get I.hok ha
  obtain ⟨od, J, _⟩ := O.look
  obtain ⟨mB, O', _⟩ := ins_get I.hok hb
  obtain ⟨od', J', _⟩ := O'.look
  obtain ⟨m', hF⟩ := I.fr
  refine PySem.W.binop_K hF I.ok.mod.kin J J'.type hc (by rw [hm]; exact M.at_) M.fn ?_
  exact wpAny_mono (run_m (vs := [.ref a, .ref a']) F b hr I (.cons rfl (.cons rfl .nil)) q) (fun w s' ⟨z, H', I', rz, qz⟩ => SlX.cmpback rz ⟨z, H', I', rz, qz⟩) fun _ _ x => x
/-! ### the types of all values, own errors too -/
structure ExcTy (K : PySem.W.Frag) (D : Addr) : Prop where
  ga : PySem.W.findIn K (.ref D) "__getattribute__" = some (some (.builtin "BaseException.__getattribute__"))
  gt : PySem.W.findIn K (.ref D) "__getattr__" = some none
  sub : PySem.W.subIn K (.ref D) (.type "BaseException") = some true
  dct : PySem.W.hasDictIn K D = true
  cl : PySem.W.findIn K (.ref D) "__class__" = some (some (.builtin "object.__class__"))
  cn : PySem.W.specialIn K (.builtin "object.__class__") "__get__" = some (some (.builtin "getset_descriptor.__get__"))
  ct : PySem.W.takesIn K (.builtin "object.__class__") = some true
  mr : PySem.W.mroIn K D (.type "object") = some true
/-- a caught exception, held as a value -/
def ExV (cls : Value) (d : Option Addr) (a : Addr) : HO := .ext fun h => ∃ (oe : Obj) (vs : Array Value), h.get? a = some oe ∧ Zc cls d oe ∧ oe.data = .fields vs
inductive TyE (K : PySem.W.Frag) (H : Hp) : V → Value → Prop where
  | x {y : V} {t : Value} (h : TyX K H y t) : TyE K H y t
  | exc {p D : Addr} (h : H p = some (ExO (.ref D) p)) (F : ExcTy K D) : TyE K H (.ref p) (.ref D)
  | exv {p D : Addr} (h : H p = some (ExV (.ref D) none p)) (F : ExcTy K D) : TyE K H (.ref p) (.ref D)
theorem kit_ofE {y : V} {u t : Value} (I : Inv X pins σ H s) (ry : RelV y u) (ty : TyE X.K H y t) : ∃ P : Heap → Prop, PySem.W.KitX X.K u t P ∧ P s.heap ∧ u ≠ .builtin "__main__.__loader__#opaque" := by
  cases ty with
  | x h => exact kit_of I ry h
  | @exc p D h F =>
    cases ry
    obtain ⟨⟨oe, vs, e, z, d, _⟩, _, _⟩ := I.hok p _ h
    obtain ⟨z1, z2⟩ := z
    have J : PySem.W.InstAt s.heap p oe D none := ⟨e, z1, by unfold PySem.W.notCls; rw [d], by rw [z2]; trivial⟩
    exact ⟨_, PySem.W.handS_kitx_exc F.ga F.gt F.sub F.dct F.cl F.cn F.ct F.mr, J, fun z => nomatch z⟩
  | @exv p D h F =>
    cases ry
    obtain ⟨⟨oe, vs, e, z, d⟩, _, _⟩ := I.hok p _ h
    obtain ⟨z1, z2⟩ := z
    have J : PySem.W.InstAt s.heap p oe D none := ⟨e, z1, by unfold PySem.W.notCls; rw [d], by rw [z2]; trivial⟩
    exact ⟨_, PySem.W.handS_kitx_exc F.ga F.gt F.sub F.dct F.cl F.cn F.ct F.mr, J, fun z => nomatch z⟩
/-- isinstance(x, c), one class -/
def rIsiE (K : PySem.W.Frag) : List V → Hp → VK → Prop := fun xs H Q => ∃ (x c : V) (t u : Value) (b : Bool), xs = [x, c] ∧ ClsV c u ∧ TyE K H x t ∧ PySem.W.kitOne K t u = some b ∧ Q (.bl b) H
theorem call_isiE : CallR X (.builtin "isinstance") (rIsiE X.K) := by
  intro pins s σ H xs us Q I r h
  obtain ⟨x, c, t, u, b, rfl, hc, ty, e, q⟩ := h
  obtain ⟨v, w, rfl, rv, rw'⟩ := vals2 r
  cases hc.eq rw'
  obtain ⟨P, k, hP, ne⟩ := kit_ofE I rv ty
  exact PySem.W.kia_one k I.kIn hP e ne fun tk => ⟨.bl b, H, I.tok _, rfl, q⟩
/-- len(x) -/
def rLenOwn (C : Addr) (sp : Sp) : List V → Hp → VK → Prop := fun xs H Q => ∃ a dx fs, xs = [.ref a] ∧ H a = some (.ins C dx fs) ∧ sp [.ref a] H (fun v H' => ∃ n : Nat, v = .int n ∧ n ≤ 16000000 ∧ Q v H') E0
theorem call_lenOwn (h : HasM X.prog X.w X.K X.mg X.base C "__len__" k ps sp) (hr : Room (k + 1) X.A) : CallR X (.builtin "len") (rLenOwn C sp) := by
  intro pins s σ H xs us Q I r q
  obtain ⟨f, fd, F, M, b⟩ := h.ex
  obtain ⟨a, dx, fs, rfl, ha, q⟩ := q
  obtain ⟨u, rfl, ru⟩ := r.one
  cases ru
  obtain ⟨mA, O, _⟩ := ins_get I.hok ha
  obtain ⟨od, J, _⟩ := O.look
  obtain ⟨m', hF⟩ := I.fr
  refine PySem.W.len_K hF I.ok.mod.kin J M.at_ M.fn ?_
  refine wpAny_mono (run_m1 (vs := [.ref a]) F b hr I (.cons rfl .nil) q) (fun w s' z => ?_) fun _ _ x => x
  obtain ⟨z, H', I', rz, n, rfl, hn, qz⟩ := z
  obtain ⟨t, rfl⟩ := (show ∃ t, w = Value.int n t from rz)
  exact ⟨⟨by omega, by omega⟩, .int n, H', I'.tok _, ⟨_, rfl⟩, qz⟩
/-- -x, ~x -/
def rOwn1 (C : Addr) (sp : Sp) : V → Hp → VK → Prop := fun x H Q => ∃ a dx fs, x = .ref a ∧ H a = some (.ins C dx fs) ∧ sp [x] H Q E0
theorem un_negOwn (h : HasM X.prog X.w X.K X.mg X.base C "__neg__" k ps sp) (hr : Room k X.A) : UnR X (unaryOp .USub) (rOwn1 C sp) := by
  intro pins s σ H x v Q I rx q
  obtain ⟨f, fd, F, M, b⟩ := h.ex
  obtain ⟨a, dx, fs, rfl, ha, q⟩ := q
  cases rx
  obtain ⟨mA, O, _⟩ := ins_get I.hok ha
  obtain ⟨od, J, _⟩ := O.look
  obtain ⟨m', hF⟩ := I.fr
  exact PySem.W.ksp_neg hF I.ok.mod.kin J M.at_ M.fn (run_m (vs := [.ref a]) F b hr I (.cons rfl .nil) q)
/-- x op n, x an instance of the class at C, n an int -/
structure IntOp (K : PySem.W.Frag) (C : Addr) (nm : String) : Prop where
  rc : ∃ rc, PySem.W.findIn K (.ref C) (dunderR nm) = some rc ∧ (rc = none ∨ ∃ g : Addr, rc = some (.ref g))
  fo : ∃ fo, PySem.W.findIn K (.type "int") (PySem.dunder nm) = some fo
  ro : ∃ ro, PySem.W.findIn K (.type "int") (dunderR nm) = some ro
  sub : PySem.W.subIn K (.type "int") (.ref C) = some false
def rOwnI (C : Addr) (sp : Sp) : R2 := fun x y H Q => ∃ a dx fs i, x = .ref a ∧ y = .int i ∧ H a = some (.ins C dx fs) ∧ sp [x, y] H Q E0
theorem op_ownI {op : Operator} (h : HasM X.prog X.w X.K X.mg X.base C m k ps sp) (hc : PySem.W.selfFirst X.K C = true) (N : IntOp X.K C op.info.2) (hr : Room k X.A) (hm : PySem.dunder op.info.2 = m := by rfl) : OpR X (binaryOp op) (rOwnI C sp) := by
  intro pins s σ H x y v u Q I rx ry q
  obtain ⟨f, fd, F, M, b⟩ := h.ex
  obtain ⟨a, dx, fs, i, rfl, rfl, ha, q⟩ := q
  cases rx
  obtain ⟨t, rfl⟩ := ry
  obtain ⟨mA, O, _⟩ := ins_get I.hok ha
  obtain ⟨od, J, _⟩ := O.look
  obtain ⟨m', hF⟩ := I.fr
  obtain ⟨rc, r1, r2⟩ := N.rc
  obtain ⟨fo, f1⟩ := N.fo
  obtain ⟨ro, o1⟩ := N.ro
  refine PySem.W.ksp_binT (T := "int") hF I.ok.mod.kin J rfl hc (by rw [hm]; exact M.at_) M.fn r1 r2 f1 o1 N.sub ?_
  exact wpAny_mono (run_m (vs := [.ref a, .int i]) F b hr I (.cons rfl (.cons ⟨t, rfl⟩ .nil)) q) (fun w s' ⟨z, H', I', rz, qz⟩ => SlX.cmpback rz ⟨z, H', I', rz, qz⟩) fun _ _ x => x
end
end My

set_option Elab.async false
set_option linter.all false
set_option maxRecDepth 100000
set_option maxHeartbeats 2000000
namespace My
open PySem PySem.Spec PyProof.Rows L2
/-! ### a caught exception, held as a value -/
theorem exV_ok {P : Program} {w : World} {H : Hp} {h : Heap} {a : Addr} {cls : Value} {d : Option Addr} {oe : Obj} {vs : Array Value} (e : h.get? a = some oe) (z : Zc cls d oe) (q : oe.data = .fields vs) : ObjOk P w H h a (ExV cls d a) :=
  ⟨⟨oe, vs, e, z, q⟩, ⟨oe, e⟩, fun _ _ ⟨o, v, q, r⟩ k => ⟨o, v, k o q, r⟩⟩
theorem Un.hold {fs ex : List Addr} {H0 H : Hp} {h0 h : Heap} {a : Addr} {o : HO} (u : Un fs ex H0 H h0 h) (n0 : h0.get? a = none) (n : H a = none) : Un fs ex H0 (upd H a o) h0 h where
  keep := u.keep
  slot := u.slot
  free := fun b ob e nb hx => by rw [upd_ne (fun z => by rw [z, n0] at e; cases e)]; exact u.free b ob e nb hx
  there := u.there
  tups := fun b xs e => (upd_ne (ne_of_none (u.tups b xs e) n)).trans (u.tups b xs e)
  frzs := fun b ob x e => (upd_ne (ne_of_none (u.frzs b ob x e) n)).trans (u.frzs b ob x e)
  tbls := fun b ps e => let ⟨m, q⟩ := u.tbls b ps e; ⟨m, (upd_ne (ne_of_none q n)).trans q⟩
theorem Inv.hold {X : Cx} {pins : List (Addr × Obj)} {σ : L2.St} {H : Hp} {s : Shared} {a : Addr} {oe : Obj} {vs : Array Value} {cls : Value} {d : Option Addr} (I : Inv X ((a, oe) :: pins) σ H s) (hz : Zc cls d oe) (hd : oe.data = .fields vs) (n0 : X.s_0.heap.get? a = none) (np : ∀ p ∈ X.pn ++ pins, p.1 ≠ a) :
    Inv X pins σ (upd H a (ExV cls d a)) s := by
  obtain ⟨ea, na, nl, nf, nc⟩ := I.pin (a, oe) (List.mem_append_right _ List.mem_cons_self)
  refine ⟨I.ok, I.os, I.bare, Un.hold I.base n0 na, I.loc, I.cell, (upd_ne (Ne.symm nl)).trans I.free, fun x c e => ?_, fun p hp => ?_, ?_, I.len⟩
  · have hc : c ≠ a := fun z => by
      obtain ⟨v, o, ho, hd'⟩ := I.cell x c e
      rw [z, ea] at ho
      cases ho
      exact nc v hd'
    exact (upd_ne hc).trans (I.freeC x c e)
  · have hm : p ∈ X.pn ++ (a, oe) :: pins := by
      rcases List.mem_append.mp hp with h | h
      · exact List.mem_append_left _ h
      · exact List.mem_append_right _ (List.mem_cons_of_mem _ h)
    obtain ⟨e1, e2, e3⟩ := I.pin p hm
    exact ⟨e1, (upd_ne (np p hp)).trans e2, e3⟩
  · exact HOk.laidN I.hok (fun _ _ q => q) na (exV_ok ea hz hd)
/-- what the clause 'except x as n' wishes of an exception of the body: slot i is n's; behind the suite the exception is held -/
def wHeld (K : PySem.W.Frag) (c : Value) (i : Nat) (ts : Addr → Value → Option Addr → TS) (Wout : WX) (D : Ends) : WX := fun cls d σ H =>
  ∃ b, PySem.W.exmOne K cls c = some b ∧ (b = true → ∀ a, H a = none → ts a cls d { nx := fun σ' H' => H' a = none → D.nx (σ'.set i none) (upd H' a (ExV cls d a)), rt := D.rt, bk := fun σ' H' => D.bk (σ'.set i none) H', ct := fun σ' H' => D.ct (σ'.set i none) H' } (σ.set i (some (.ref a))) H) ∧
    (b = false → Wout cls d σ H)
section
variable {X : Cx} {x n : Str} {c : Value} {i : Nat} {body suite : List Stmt} {b₀ : Stmt} {np pos pos' : Pos} {tb : WX → TS} {ts : Addr → Value → Option Addr → TS} {Wout : WX}
theorem ps_try_held (hs : X.stack = X.env :: X.outer) (hf : X.env.frame = some X.env.locals) (hex : X.ex = []) (hN : X.N.Nodup) (hi : X.N[i]? = some n) (hln : X.env.kindOf n = some .local) (hc : L2.Names X x c) (tk : Takes X Wout)
    (hb : ∀ (W : WX) (pn : List (Addr × Obj)) (xe : Value → Shared → Prop), Takes (X.tr pn xe) W → PassesOwn (model X.prog X.w) X.A X.env xe → PSs (X.tr pn xe) body (tb W))
    (hsu : ∀ (a : Addr) (oe : Obj) (cls : Value) (d : Option Addr) (pn : List (Addr × Obj)), Zc cls d oe → (∃ vs, oe.data = .fields vs) → PSs (X.suite a ((a, oe) :: pn)) (b₀ :: suite) (ts a cls d)) :
    PS X (.Try body [.ExceptHandler (some (.Name x np)) (some n) (b₀ :: suite) pos'] [] [] pos) (fun D σ H => tb (wHeld X.K c i ts Wout D) D σ H) := by
  refine ⟨fun pins s σ H D I h => ?_⟩
  have ok := I.ok
  have hfr : X.A.frames = some (X.env :: X.outer) := by rw [ok.frames, hs]
  have hloc : Loc X.env.scope n := .inl hln
  refine wpAny_Try_except ?_
  refine wpAny_mono ((hb (wHeld X.K c i ts Wout D) (X.pn ++ pins) (fun e s₁ => wpAny (model X.prog X.w) X.A (noteFrame e X.env) (fun _ s₂ => wpAny (model X.prog X.w) X.A (setFlight e none) (fun _ s₃ =>
    wpAny (model X.prog X.w) X.A (handleBy e X.env [.ExceptHandler (some (.Name x np)) (some n) (b₀ :: suite) pos']) (SP X pins D) X.xe s₃) X.xe s₂) X.xe s₁) (fun u s' xx => ?_) PassesOwn.looking).run [] s σ H D (I.toTry _) h) (fun f s1 hsp => ?_) (fun e s1 he => he)
  · obtain ⟨a, B, sI, pins', σ', H', cls, d, rfl, J', nb, up, sky, na, os, ag, b, hb1, hyes, hno⟩ := xx
    have J : Inv X pins σ' H' sI := J'.ofTry ok
    have sky' : Sky B (X.env :: X.outer) a (Zc cls d) X.env.locals s'.heap := by rw [← hs]; exact sky
    have nB : B.get? a = none := by
      rcases sky with ⟨_, hn, _⟩ | ⟨_, hn, _⟩ | ⟨_, hn, _⟩ <;> exact hn
    show wpAny (model X.prog X.w) X.A (noteFrame (.ref a) X.env) _ _ _
    refine Sky.land Zc.steady hfr hf sky' fun h3 fl3 up3 => ?_
    have J3 : Inv X pins σ' H' { s' with heap := h3 } := J.landed nb fl3.1 (up.trans up3) os ag
    obtain ⟨oe3, vs3, he3, hz3, hd3⟩ := fl3.there
    have notFr : ∀ {h : Heap} {o : Obj} {vs : Array Value}, h.FunFrames B (X.env :: X.outer) → h.get? a = some o → o.data = .fields vs → a ∉ frs (X.env :: X.outer) := fun {h o vs} ff e dd hm => by
      obtain ⟨_, o', e', hnf⟩ := ff.mem hm
      rw [e] at e'; cases e'
      exact hnf _ dd
    have nfr := notFr fl3.2.2.1 he3 hd3
    have nI : sI.heap.get? a = none := by
      cases q : sI.heap.get? a with
      | none => rfl
      | some o =>
        have z := nb a o q (by rw [hs]; exact nfr)
        rw [nB] at z; cases z
    have n0 : X.s_0.heap.get? a = none := by
      cases q : X.s_0.heap.get? a with
      | none => rfl
      | some o =>
        obtain ⟨o', z⟩ := J.base.there a o q (by rw [hex]; exact fun z => nomatch z)
        rw [nI] at z; cases z
    have npn : ∀ p ∈ X.pn ++ pins, p.1 ≠ a := fun p hp z => by
      have q := (J.pin p hp).1
      rw [z, nI] at q; cases q
    have nL : a ≠ X.env.locals := fun z => nfr (List.mem_filterMap.mpr ⟨X.env, List.mem_cons_self, by rw [hf, z]⟩)
    have nF : a ∉ X.fs := fun hm => by
      obtain ⟨e, he, q⟩ := List.mem_filterMap.mp hm
      exact nfr (List.mem_filterMap.mpr ⟨e, List.mem_cons_of_mem _ he, q⟩)
    have S3 := J3.suite he3 hd3 na nL nF
    refine wpAny_handleBy_cons (codeAny_handlers_test ?_) (by intro q; cases q)
    have LT : PySem.W.Looks (model X.prog X.w) h3 (typeOf (.ref a)) cls := fun A Q E s k q => wpAny_typeOf_ref (k _ _ he3) (by rw [hz3.1]; exact q)
    have LM := PySem.W.exm_one (M := model X.prog X.w) (J3.kIn) LT hb1
    have test : ∀ {Q : Value → Shared → Prop} {E : Value → Shared → Prop}, Q c { s' with heap := h3 } → wpAny (model X.prog X.w) (X.A.mark (some (.ref a))) (eval (.Name x np) X.env) Q E { s' with heap := h3 } := fun {Q E} q => by
      obtain ⟨hg, hdbg, hm | ⟨hm, hv, hnn⟩⟩ := hc
      · exact ld_glob (X := X.suite a ((a, oe3) :: (X.pn ++ pins))) S3 hg hm q hdbg
      · exact ld_blt (X := X.suite a ((a, oe3) :: (X.pn ++ pins))) S3 hg hm hv q hnn hdbg
    refine test (LM.here ?_)
    cases b with
    | true =>
      refine codeAny_handlers_suite_as ?_
      refine HandSPX.lands_againZ fl3 fun h4 fl4 up4 => ?_
      have J4 : Inv X pins σ' H' { s' with heap := h4 } := J.landed nb fl4.1 ((up.trans up3).trans up4) os ag
      obtain ⟨oe4, vs4, he4, hz4, hd4⟩ := fl4.there
      have S4 := J4.suite he4 hd4 na nL nF
      refine store_ok (X := X.suite a ((a, oe4) :: (X.pn ++ pins))) (v := .ref a) S4 hN hi hloc rfl (fun s5 S5 => ?_) (.inr hln)
      refine wpAny_mono ((hsu a oe4 cls d (X.pn ++ pins) hz4 ⟨_, hd4⟩).run [] s5 _ H' _ S5 (hyes rfl a na)) (fun f s6 hsp => ?_) (fun _ _ z => False.elim z)
      have end_ : ∀ {σ6 : L2.St} {H6 : Hp} {Q : Shared → Prop}, Inv (X.suite a ((a, oe4) :: (X.pn ++ pins))) [] σ6 H6 s6 → (∀ s7, Inv X ((a, oe4) :: pins) (σ6.set i none) H6 s7 → Q s7) →
          wpAny (model X.prog X.w) X.A (do bindName X.env n .none; unbindBehindTheSuite X.env n pos') (fun _ s7 => Q s7) X.xe s6 := fun {σ6 H6 Q} S6 hq => by
        have J6 : Inv X ((a, oe4) :: pins) σ6 H6 s6 := ⟨ok, S6.os, S6.bare, S6.base, S6.loc, S6.cell, S6.free, S6.freeC, fun p hp => S6.pin p (by
          rw [List.append_nil]
          rcases List.mem_append.mp hp with h | h
          · exact List.mem_cons_of_mem _ (List.mem_append_left _ h)
          · rcases List.mem_cons.mp h with h | h
            · rw [h]; exact List.mem_cons_self
            · exact List.mem_cons_of_mem _ (List.mem_append_right _ h)), S6.hok, S6.len⟩
        exact gone_ok J6 hN hi hln hq
      have drop : ∀ {σ7 : L2.St} {H7 : Hp} {s7 : Shared}, Inv X ((a, oe4) :: pins) σ7 H7 s7 → Inv X pins σ7 H7 s7 := fun J7 => ⟨J7.ok, J7.os, J7.bare, J7.base, J7.loc, J7.cell, J7.free, J7.freeC, fun p hp => J7.pin p (by
          rcases List.mem_append.mp hp with h | h
          · exact List.mem_append_left _ h
          · exact List.mem_append_right _ (List.mem_cons_of_mem _ h)), J7.hok, J7.len⟩
      cases f with
      | next =>
        obtain ⟨σ6, H6, S6, q6⟩ := hsp
        exact end_ S6 fun s7 J7 => ⟨_, _, Inv.hold J7 hz4 hd4 n0 npn, q6 (J7.pin (a, oe4) (List.mem_append_right _ List.mem_cons_self)).2.1⟩
      | brk =>
        obtain ⟨σ6, H6, S6, q6⟩ := hsp
        exact end_ S6 fun s7 J7 => ⟨_, _, drop J7, q6⟩
      | cont =>
        obtain ⟨σ6, H6, S6, q6⟩ := hsp
        exact end_ S6 fun s7 J7 => ⟨_, _, drop J7, q6⟩
      | ret u =>
        obtain ⟨v6, σ6, H6, S6, r6, q6⟩ := hsp
        exact end_ S6 fun s7 J7 => ⟨_, _, _, drop J7, r6, q6⟩
    | false =>
      show wpAny _ X.A (handleBy (.ref a) X.env []) _ _ _
      refine wpAny_handleBy_nil ?_
      obtain ⟨k1, k2, k3, oe, vs, T, oT, ts', he, hz, hd, h1, hr⟩ := id fl3
      unfold PySem.passOn
      refine wpAny_bind (wpAny_field he hd h1 ?_)
      rw [if_neg (show ¬ ((Value.ref T == Value.none) = true) from by simp)]
      have fin : wpAny (model X.prog X.w) X.A (setFlight (.ref a) X.env.frame) (fun _ s4 => wpAny (model X.prog X.w) X.A (throw (.ref a) : Sem Flow) (SP X pins D) X.xe s4) X.xe { s' with heap := h3 } := by
        rw [hf]
        refine HandSPX.setFlight_upZ fl3 fun h4 hh4 up4 => wpAny_throw (tk _ _ ?_)
        exact ⟨a, B, sI, pins, σ', H', cls, d, rfl, J, nb, (up.trans up3).trans up4, .inr (.inr (by rw [hs]; exact hh4)), na, os, ag, hno rfl⟩
      first
        | exact wpAny_bind (wpAny_pure (wpAny_bind fin))
        | exact wpAny_bind fin
  · cases f with
    | next =>
      obtain ⟨σ', H', J', q⟩ := hsp
      exact wpAny_execs_nil ⟨σ', H', J'.ofTry ok, q⟩
    | brk =>
      obtain ⟨σ', H', J', q⟩ := hsp
      exact ⟨σ', H', J'.ofTry ok, q⟩
    | cont =>
      obtain ⟨σ', H', J', q⟩ := hsp
      exact ⟨σ', H', J'.ofTry ok, q⟩
    | ret u =>
      obtain ⟨v, σ', H', J', r, q⟩ := hsp
      exact ⟨v, σ', H', J'.ofTry ok, r, q⟩
end
/-! ### a def that may raise, by its name -/
structure HasX (P : Program) (w : World) (K : PySem.W.Frag) (mg : Str → Option Value) (base : Heap) (x : Str) (k : Nat) (ps : List Str) (sp : Sp) : Prop where
  ex : ∃ f fd, FnOk P w K mg base (L2.CX P w) k f fd ps sp ∧ mg x = some (.ref f) ∧ PySem.W.keepIn K (.ref f) = true ∧ Binds K fd ps []
theorem fnOk_calm {P : Program} {w : World} {K : PySem.W.Frag} {mg : Str → Option Value} {base : Heap} {k : Nat} {f : Addr} {fd : FuncData} {ps : List Str} {sp : Sp} (F : FnOk P w K mg base (L2.CX P w) k f fd ps sp) : FnOk P w K mg base CX0 k f fd ps (fun vs H Q _ => sp vs H Q E0) :=
  ⟨fun vs H Q E q => F.len vs H Q E0 q, fun A outer s H args us vs Q E hr he hb hv hs => codeAny_mono (F.run A outer s H args us vs Q E0 hr he hb hv hs) fun r s' hq => by
    cases r with
    | error e =>
      obtain ⟨_, _, _, _, _, _, _, _, _, _, _, _, z⟩ := hq
      exact z.elim
    | ok fl => cases fl <;> exact hq⟩
theorem HasX.calm {P : Program} {w : World} {K : PySem.W.Frag} {mg : Str → Option Value} {base : Heap} {x : Str} {k : Nat} {ps : List Str} {sp : Sp} (h : HasX P w K mg base x k ps sp) : Has P w K mg base x k ps (fun vs H Q _ => sp vs H Q E0) := by
  obtain ⟨f, fd, F, a, b, c⟩ := h.ex
  exact ⟨f, fd, fnOk_calm F, a, b, c⟩
theorem Has.imp {P : Program} {w : World} {K : PySem.W.Frag} {mg : Str → Option Value} {base : Heap} {x : Str} {k : Nat} {ps : List Str} {sp sp' : Sp} (h : Has P w K mg base x k ps sp) (i : ∀ vs H Q E, sp' vs H Q E → sp vs H Q E) : Has P w K mg base x k ps sp' := by
  obtain ⟨f, fd, F, a, b, c⟩ := h.ex
  exact ⟨f, fd, F.imp i, a, b, c⟩
section
variable {X : Cx} {k : Nat} {ps : List Str} {sp : Sp} {x : Str} {p pos : Pos} {e : Expr} {es : List Expr} {t : TA} {W : WX} {σ : L2.St} {H : Hp} {Q : VK}
theorem pe_callXH (h : HasX X.prog X.w X.K X.mg X.base x k ps sp) (hr : Room k X.A) (tk : Takes X W) (ha : PA X (e :: es) t) (hg : Gl X x := by rfl) (hdb : (x == ("__debug__" : Str)) = false := by decide)
   (hs : starEach (e :: es) X.env = (false, eval e X.env) :: starEach es X.env := by rfl) (hplain : (backTo pos (starEach es X.env)).any (·.1) = false := by rfl) :
   PE X (.Call (.Name x p) (e :: es) [] pos) (tCallS sp (WE W) t) := by
  obtain ⟨f, fd, F, a, b, c⟩ := h.ex
  exact pe_callS F hr hg a b c (fun σ => passAt tk σ) ha hdb hs hplain
theorem r_callX {E : L2.St → XK} (q : t σ H fun vs H1 => sp vs H1 Q (E σ)) : tCallS sp E t σ H Q := q
end
/-! ### .. by keywords, in the parameters' order or turned round -/
def permB {α : Type} (rv : Bool) (l : List α) : List α := if rv then l.reverse else l
structure KW0 (K : PySem.W.Frag) (fd : FuncData) (ps ks : List Str) (rv : Bool) : Prop where
  to : ∀ (s : Shared) (ws : List Value), K.In s.heap → ws.length = ks.length → BindsTo s fd ⟨[], ks.zip ws⟩ (ps.zip (permB rv ws))
theorem kw0 {K : PySem.W.Frag} {fd : FuncData} {ps ks : List Str} {rv : Bool} (h : ∀ (ws : List Value), ws.length = ks.length → bindArgs fd ⟨[], ks.zip ws⟩ = pure (ps.zip (permB rv ws))) : KW0 K fd ps ks rv := ⟨fun _ ws _ hl => .of_eq (h ws hl)⟩
structure HasXK (P : Program) (w : World) (K : PySem.W.Frag) (mg : Str → Option Value) (base : Heap) (x : Str) (k : Nat) (ps ks : List Str) (rv : Bool) (sp : Sp) : Prop where
  ex : ∃ f fd, FnOk P w K mg base (L2.CX P w) k f fd ps sp ∧ mg x = some (.ref f) ∧ PySem.W.keepIn K (.ref f) = true ∧ KW0 K fd ps ks rv
theorem vals_rev : ∀ {vs : List V} {us : List Value}, Vals vs us → Vals vs.reverse us.reverse
  | _, _, .nil => .nil
  | _, _, .cons r t => by
    rw [List.reverse_cons, List.reverse_cons]
    exact Vals.append (vals_rev t) (.cons r .nil)
theorem vals_perm {vs : List V} {us : List Value} (rv : Bool) (h : Vals vs us) : Vals (permB rv vs) (permB rv us) := by
  cases rv with
  | true => exact vals_rev h
  | false => exact h
def tCallXK (sp : Sp) (rv : Bool) (E : L2.St → XK) (tk : TA) : TE := fun σ H Q => tk σ H fun zs H2 => sp (permB rv zs) H2 Q (E σ)
section
variable {X : Cx} {k : Nat} {ps ks : List Str} {rv : Bool} {sp : Sp} {x : Str} {p pos : Pos} {kws : List Keyword} {tkw : TA} {W : WX} {σ : L2.St} {H : Hp} {Q : VK}
theorem permB_len {α : Type} (rv : Bool) (l : List α) : (permB rv l).length = l.length := by cases rv <;> simp [permB]
theorem pe_callXHK (h : HasXK X.prog X.w X.K X.mg X.base x k ps ks rv sp) (hr : Room k X.A) (tk : Takes X W) (hkw : PK X kws tkw) (hk : ks.length = ps.length := by rfl) (hg : Gl X x := by rfl)
    (hall : (backToKw pos (keywordEach kws X.env)).all (·.1.isSome) = true := by rfl) (hks : (backToKw pos (keywordEach kws X.env)).filterMap (·.1) = ks := by rfl) (hdb : (x == ("__debug__" : Str)) = false := by decide)
    (hpl : ((backTo pos (starEach [] X.env)).any (·.1) || (backToKw pos (keywordEach kws X.env)).any (·.1.isNone)) = false := by rfl) : PE X (.Call (.Name x p) [] kws pos) (tCallXK sp rv (WE W) tkw) := by
  obtain ⟨f, fd, F, a, b, kb⟩ := h.ex
  refine ⟨fun pins s σ H Q I h => ?_⟩
  refine wpAny_Call_Name_kw (ld_glob I hg a ?_ hdb)
  refine PySem.W.callWith_KW0 (h₀ := X.base) I.ok.mod.kin b hall (thn (hkw.run pos pins s σ H _ I h) fun ws s2 ⟨zs, H2, I2, rz, q2⟩ => ⟨I2.kIn, ?_⟩) hpl
  rw [hks]
  have q2 : sp (permB rv zs) H2 Q (WE W σ) := q2
  have hl : ws.length = ks.length := by
    have h1 := F.len _ _ _ _ q2
    rw [permB_len] at h1
    rw [← rz.length, h1, hk]
  refine wpAny_call (codeAny_mono (F.run X.A X.stack s2 H2 ⟨[], ks.zip ws⟩ (permB rv ws) (permB rv zs) Q (WE W σ) hr I2.env0 (kb.to s2 ws I2.kIn hl) (vals_perm rv rz) q2) fun r s' hq => ?_)
  cases r with
  | error e => exact tk e s' (XE.of_call I2 (fun _ _ _ h => h) hq)
  | ok fl =>
    cases fl with
    | ret u => exact I2.after hq
    | next => exact False.elim hq
    | brk => exact False.elim hq
    | cont => exact False.elim hq
theorem r_callXK {E : L2.St → XK} (q : tkw σ H fun zs H1 => sp (permB rv zs) H1 Q (E σ)) : tCallXK sp rv E tkw σ H Q := q
end
theorem call_isiEK {X : Cx} {K : PySem.W.Frag} (h : X.K = K := by rfl) : CallR X (.builtin "isinstance") (rIsiE K) := by subst h; exact call_isiE
/-! ### own exception classes -/
structure OwnX (K : PySem.W.Frag) (mg : Str → Option Value) (x : Str) (C : Addr) : Prop where
  xi : PySem.W.excIn K C [.type "ValueError", .type "Exception", .type "BaseException", .type "object"] "ValueError.__new__" = true
  g : mg x = some (.ref C)
  k : PySem.W.keepIn K (.ref C) = true
  b : PySem.W.subIn K (.ref C) (.type "BaseException") = some true
  t : PySem.W.typeIn K (.ref C) = some (.type "type")
  e : ExcTy K C
  cs : ∃ cd, PySem.W.clsIn K C = some cd
theorem OwnX.catch {K : PySem.W.Frag} {mg : Str → Option Value} {x : Str} {C : Addr} {cls : Value} {b : Bool} (h : OwnX K mg x C) (s : PySem.W.subIn K cls (.ref C) = some b) : PySem.W.exmOne K cls (.ref C) = some b := PySem.W.exm_ref h.b h.e.dct h.t s
theorem OwnX.kit {K : PySem.W.Frag} {mg : Str → Option Value} {x : Str} {C : Addr} {cls : Value} {b : Bool} (h : OwnX K mg x C) (s : PySem.W.subIn K cls (.ref C) = some b) (ne : (cls == .ref C) = false) : PySem.W.kitOne K cls (.ref C) = some b := by
  obtain ⟨cd, e⟩ := h.cs
  unfold PySem.W.kitOne PySem.W.kitCls
  rw [ne, if_neg Bool.false_ne_true]
  show (if ((PySem.W.clsIn K C).isSome && PySem.W.typeIn K (.ref C) == some (.type "type")) = true then PySem.W.subIn K cls (.ref C) else none) = some b
  rw [e, h.t, if_pos (by simp)]
  exact s
theorem kit_own {K : PySem.W.Frag} {C : Addr} : PySem.W.kitOne K (.ref C) (.ref C) = some true := by
  unfold PySem.W.kitOne
  rw [if_pos (beq_self_eq_true _)]
/-- an own class, a built-in one -/
theorem kit_ownB {K : PySem.W.Frag} {C : Addr} {T : String} {b : Bool} (s : PySem.W.subIn K (.ref C) (.type T) = some b) (h : PySem.W.kitCls K (.ref C) (.type T) = PySem.W.subIn K (.ref C) (.type T) := by rfl) : PySem.W.kitOne K (.ref C) (.type T) = some b := by
  unfold PySem.W.kitOne
  rw [if_neg (by simp), h]
  exact s
theorem r_isiE' {K : PySem.W.Frag} {H : Hp} {Q : VK} {x c : V} {t u : Value} {b : Bool} (hc : ClsV c u) (ty : TyE K H x t) (e : PySem.W.kitOne K t u = some b) (q : Q (.bl b) H) : rIsiE K [x, c] H Q := ⟨x, c, t, u, b, rfl, hc, ty, e, q⟩
/-- a value that is no integer, or a truth -/
def NotInt (K : PySem.W.Frag) (H : Hp) (v : V) : Prop := ∃ t b1 b2, TyE K H v t ∧ PySem.W.kitOne K t (.type "int") = some b1 ∧ PySem.W.kitOne K t (.type "bool") = some b2 ∧ (b1 && !b2) = false
def NotIntS (K : PySem.W.Frag) (H : Hp) (v : V) : Prop := ∀ H', Same H H' → NotInt K H' v
theorem NotIntS.same {K : PySem.W.Frag} {H H' : Hp} {v : V} (h : NotIntS K H v) (s : Same H H') : NotIntS K H' v := fun H2 s2 => h H2 (s.trans s2)
theorem NotIntS.now {K : PySem.W.Frag} {H : Hp} {v : V} (h : NotIntS K H v) : NotInt K H v := h H (Same.refl H)
section
variable {K : PySem.W.Frag} {H : Hp}
def spIsIntT (K : PySem.W.Frag) : Sp := fun vs H Q _ => ∃ x t b1 b2, vs = [x] ∧ TyE K H x t ∧ PySem.W.kitOne K t (.type "int") = some b1 ∧ PySem.W.kitOne K t (.type "bool") = some b2 ∧ Q (.bl (b1 && !b2)) H
theorem r_isNR {Q : VK} {a : Addr} (q : Q (.bl false) H) : rIsN (.ref a) .non H Q := ⟨rfl, by rw [decide_eq_false (by intro h; cases h)]; exact q⟩
end
end My

set_option Elab.async false
set_option linter.all false
set_option maxRecDepth 100000
namespace My
open PySem PySem.Spec PyProof.Rows L2
/-! ### iter(t), t a tuple -/
def IterO (b p : Addr) : HO := .ext fun h => h.IsTupleIter p b 0
theorem iterO_ok {P : Program} {w : World} {H : Hp} {h : Heap} {b p : Addr} (e : h.IsTupleIter p b 0) : ObjOk P w H h p (IterO b p) := by
  obtain ⟨o, ho, hc, hd⟩ := id e
  exact ⟨e, ⟨o, ho⟩, fun h1 h2 q k => q.at fun o e => k o e⟩
section
variable {X : Cx} {pins : List (Addr × Obj)} {σ : L2.St} {H : Hp} {s : Shared} {Q : VK} {C : Addr} {m : Str} {k : Nat} {ps : List Str} {sp : Sp} {tg l : Expr} {tl : TE}
/-- what was tracked at a is tracked no more -/
theorem Inv.forget {a : Addr} {φ : Heap → Prop} (I : Inv X pins σ H s) (ha : H a = some (.ext φ)) : Inv X pins σ (delH H a) s := by
  have neN : ∀ b, H b = none → b ≠ a := fun b e z => by
    rw [z, ha] at e
    cases e
  have neT : ∀ b xs, H b = some (.tup xs) → b ≠ a := fun b xs e z => by
    rw [z, ha] at e
    cases e
  have neF : ∀ b o u, H b = some (.frz o u) → b ≠ a := fun b o u e z => by
    rw [z, ha] at e
    cases e
  have neB : ∀ b ps, H b = some (.tbl ps) → b ≠ a := fun b ps e z => by
    rw [z, ha] at e
    cases e
  have neO : ∀ b c, H b = some (.own c) → b ≠ a := fun b c e z => by
    rw [z, ha] at e
    cases e
  refine ⟨I.ok, I.os, I.bare, ⟨I.base.keep, I.base.slot, fun b o e n hq => ?_, I.base.there, fun b xs e => ?_, fun b o u e => ?_, fun b ps e => ?_⟩, I.loc, I.cell, ?_, fun x c e => ?_, fun p hp => ?_, fun b u e => ?_, I.len⟩
  · have q := I.base.free b o e n hq
    rw [delH_ne (neN b q)]
    exact q
  · have q := I.base.tups b xs e
    rw [delH_ne (neT b xs q)]
    exact q
  · have q := I.base.frzs b o u e
    rw [delH_ne (neF b o u q)]
    exact q
  · obtain ⟨m, q⟩ := I.base.tbls b ps e
    exact ⟨m, by rw [delH_ne (neB b _ q)]; exact q⟩
  · rw [delH_ne (neN _ I.free)]
    exact I.free
  · rw [delH_ne (neN _ (I.freeC x c e))]
    exact I.freeC x c e
  · obtain ⟨e, n, ne, nf, d⟩ := I.pin p hp
    exact ⟨e, by rw [delH_ne (neN _ n)]; exact n, ne, nf, d⟩
  · have hb : b ≠ a := fun z => by
      rw [z, delH_same] at e
      cases e
    rw [delH_ne hb] at e
    refine (I.hok b u e).stay (fun c v hc q => q) (fun c q => ?_) fun c xs q => ?_
    · rw [delH_ne (neO c b q)]
      exact q
    · rw [delH_ne (neT c xs q)]
      exact q
end
/-! ### a def whose promise knows the state at its entry -/
structure FnS (P : Program) (w : World) (K : PySem.W.Frag) (mg : Str → Option Value) (base : Heap) (k : Nat) (f : Addr) (fd : FuncData) (ps : List Str) (sp : Shared → Sp) : Prop where
  len : ∀ s vs H Q E, sp s vs H Q E → vs.length = ps.length
  run : ∀ (A : Around) (outer : List Env) (s : Shared) (H : Hp) (args : Args) (us : List Value) (vs : List V) (Q : VK) (E : XK), Room k A → Env0 P w K mg base A outer s H → BindsTo s fd args (ps.zip us) → Vals vs us → sp s vs H Q E →
    codeAny (model P w) A (.call (.ref f) args) (CR CX0 outer P w H s Q E) s
theorem fnS_of {P : Program} {w : World} {K : PySem.W.Frag} {mg : Str → Option Value} {base : Heap} {k : Nat} {f : Addr} {x qual : Str} {st : Stmt} {fd : FuncData} {N ps : List Str} {sp : Shared → Sp} (F : Fun K x qual st f fd) (S : FnScope N ps (defScope st))
    (len : ∀ s vs H Q E, sp s vs H Q E → vs.length = ps.length)
    (hbody : ∀ (cdv : Value) (A : Around) (outer : List Env) (s : Shared) (H : Hp) (vs : List V) (Q : VK) (E : XK), Room k (A.deeper (envOfC qual (defScope st) s.heap.objs.size f cdv)) → sp s vs H Q E →
      ∃ t, PSs (cxOf CX0 P w K mg base N qual (defScope st) f cdv A outer s H E).nox (defBody st) t ∧ t { nx := fun _ H' => Q .non H', rt := Q } (start N vs) H) : FnS P w K mg base (k + 1) f fd ps sp := by
  obtain ⟨oc, od, kV, doc, pm, an, cdv, ct, osl, rfl, lk, hcd⟩ := F.ex
  refine ⟨len, fun A outer s H args us vs Q E hr e0 hb r hsp => ?_⟩
  have hl := len _ _ _ _ _ hsp
  have KX : K.In s.heap := e0.mod.kin.keeps fun b o e => (e0.bs b o e).1
  have lim : s.heap.NoLimit := e0.mod.nolimit.keeps fun b o e => (e0.bs b o e).1
  have hkind : ∀ y ∈ ps.zip us, (defScope st).names.lookup y.1 = some .local ∨ ((defScope st).names.lookup y.1 = some .cell ∧ ((cellsFrom (s.heap.objs.size + 1) (defScope st).names []).lookup y.1).isSome = true) := fun ⟨n, v⟩ hy => by
    rcases S.par n (List.of_mem_zip hy).1 with q | q
    · exact .inl q
    · exact .inr ⟨q, PySem.W.cellsFrom_some _ _ _ (.inl q)⟩
  refine codeAny_call_function hr.depth (KX _ _ lk) rfl S.co S.gen rfl (PySem.W.codeRec_of KX hcd) (hb _ _ _ _ ?_)
  refine wpAny_newFunctionEnv_cells S.kind hkind fun env he s1 x => ?_
  subst he
  refine ⟨lim.keeps x.toInCall.keep, codeAny_func ?_⟩
  obtain ⟨t, ht, hq⟩ := hbody cdv A outer s H vs Q E (hr.deeper _) hsp
  have ht := ht.nox
  have I : Inv (cxOf CX0 P w K mg base N qual (defScope st) f cdv A outer s H E) [] (start N vs) H s1 := inv_start S hr.hd e0 hl r x
  refine wpAny_mono (ht.run [] s1 (start N vs) H _ I hq) (fun fl s' hs => ?_) fun e s' hs => hs
  have fin : ∀ {σ' : L2.St} {H' : Hp} {v : V} {u : Value}, Inv (cxOf CX0 P w K mg base N qual (defScope st) f cdv A outer s H E) [] σ' H' s' → RelV v u → Q v H' → CE outer P w H s Q u s' :=
    fun {σ' H' v u} J rv q => ⟨v, H', J.os, J.bare, J.base, J.hok, rv, q⟩
  cases fl with
  | ret u =>
    obtain ⟨v, σ', H', J, rv, q⟩ := hs
    exact fin J rv q
  | next =>
    obtain ⟨σ', H', J, q⟩ := hs
    exact fin (v := V.non) (u := Value.none) J rfl q
  | brk =>
    obtain ⟨_, _, _, q⟩ := hs
    exact False.elim q
  | cont =>
    obtain ⟨_, _, _, q⟩ := hs
    exact False.elim q
structure HasS (P : Program) (w : World) (K : PySem.W.Frag) (mg : Str → Option Value) (base : Heap) (C : Addr) (m : Str) (k : Nat) (ps : List Str) (sp : Shared → Sp) : Prop where
  ex : ∃ f fd, FnS P w K mg base k f fd ps sp ∧ Meth K C m f ∧ Binds K fd ps []
section
variable {X : Cx} {pins : List (Addr × Obj)} {σ : L2.St} {H : Hp} {s : Shared} {Q : VK} {C : Addr} {m : Str} {k : Nat} {ps : List Str} {f : Addr} {fd : FuncData} {tg l : Expr} {tl : TE}
theorem run_mS {sp : Shared → Sp} (F : FnS X.prog X.w X.K X.mg X.base k f fd ps sp) (b : Binds X.K fd ps []) (hr : Room k X.A) (I : Inv X pins σ H s) {us : List Value} {vs : List V} (r : Vals vs us) (q : sp s vs H Q E0) : wpAny (model X.prog X.w) X.A (call (.ref f) us) (EP X pins σ Q) X.xe s := by
  have hl : us.length = ps.length := by rw [← r.length]; exact F.len _ _ _ _ _ q
  refine wpAny_call (codeAny_mono (F.run X.A X.stack s H ⟨us, []⟩ us vs Q E0 hr I.env0 (by simpa using b s us I.kIn (by simpa using hl)) r q) fun r s' hq => ?_)
  cases r with
  | error e => exact (pass0 (X := X)) pins σ H s e s' I hq
  | ok fl =>
    cases fl with
    | ret u => exact I.after hq
    | next => exact False.elim hq
    | brk => exact False.elim hq
    | cont => exact False.elim hq
/-- iter(self.t), t a tuple: the new iterator lies behind all that was there at the entry -/
def rIterS (X : Cx) : List V → Hp → VK → Prop := fun xs H Q => ∃ b ys, xs = [.ref b] ∧ SqT X.K H b ys ∧ ∀ p, H p = none → X.s_0.heap.objs.size ≤ p → Q (.ref p) (upd H p (IterO b p))
theorem call_iterS : CallR X (.builtin "iter") (rIterS X) := by
  intro pins s σ H xs us Q I r q
  obtain ⟨b, ys, rfl, hq, q⟩ := q
  obtain ⟨u, rfl, ru⟩ := r.one
  cases ru
  obtain ⟨its, rv, pl, hz⟩ := I.tuple hq
  refine Calls.call_function_entry (by decide +kernel) (by decide +kernel) PySem.W.kdk_entry_iter (PySem.W.kdk_args_iter _) ?_
  unfold Builtin.«iter»
  refine wpAny_bind (m := someArgs "iter" 1 2 _) (wpAny_of_eq (a := [Value.ref b]) (by first | rfl | kernel_rfl!) ?_)
  show wpAny _ _ (pyIter (.ref b) >>= _) _ _ _
  refine wpAny_bind (wpAny_pyIter_tuple (show s.heap.IsTuple b its.toArray from pl) ?_)
  refine wpAny_pure ⟨_, rfl, .ref s.heap.objs.size, upd H s.heap.objs.size (IterO b s.heap.objs.size), I.laid (t' := s.toks) (fun b o e => Heap.get?_push_of_some _ e) (Nat.le_refl _) (iterO_ok ⟨_, Heap.get?_push_size _ rfl, rfl, rfl⟩), rfl, q _ (I.hok.fresh (Nat.le_refl _)) I.sz⟩
/-- what __iter__ promises: iter(the tuple of the field) -/
def spIter (K : PySem.W.Frag) (C : Addr) (fld : Str) : Shared → Sp := fun s vs H Q _ => ∃ a dx fs b ys, vs = [.ref a] ∧ H a = some (.ins C dx fs) ∧ fs.lookup fld = some (.ref b) ∧ SqT K H b ys ∧ ∀ p, H p = none → s.heap.objs.size ≤ p → Q (.ref p) (upd H p (IterO b p))
/-- for y in x, x an instance of the class at C whose __iter__ gives iter(the tuple of a field) -/
def iOwn (K : PySem.W.Frag) (C : Addr) (fld : Str) (tl : TE) : TI := fun σ H R => tl σ H fun x H1 => ∃ a dx fs b ys, x = .ref a ∧ H1 a = some (.ins C dx fs) ∧ fs.lookup fld = some (.ref b) ∧ SqT K H1 b ys ∧ R (Itt K b) H1
theorem pi_own {fld : Str} (hl : PE X l tl) (h : HasS X.prog X.w X.K X.mg X.base C "__iter__" k ps (spIter X.K C fld)) (hr : Room k X.A) : PI X tg l (iOwn X.K C fld tl) := by
  refine ⟨fun pins s σ H R I q => ?_⟩
  obtain ⟨f, fd, F, M, b⟩ := h.ex
  refine thn (hl.run pins s σ H _ I q) fun v s1 ⟨x, H1, I1, r1, q1⟩ => ?_
  obtain ⟨a, dx, fs, t, ys, rfl, ha, hf, ht, q⟩ := q1
  cases r1
  obtain ⟨mA, O, _⟩ := ins_get I1.hok ha
  obtain ⟨od, J, _⟩ := O.look
  obtain ⟨m', hF⟩ := I1.fr
  refine PySem.W.owit_iter hF I1.ok.mod.kin J M.at_ M.fn ?_
  have hsp : spIter X.K C fld s1 [.ref a] H1 (fun v H2 => ∃ p, v = .ref p ∧ s1.heap.objs.size ≤ p ∧ H1 p = none ∧ H2 = upd H1 p (IterO t p)) E0 := ⟨a, dx, fs, t, ys, rfl, ha, hf, ht, fun p np sz => ⟨p, rfl, sz, np, rfl⟩⟩
  refine wpAny_mono (run_mS (vs := [.ref a]) F b hr I1 (.cons rfl .nil) hsp) (fun w s2 z => ?_) fun _ _ x => x
  obtain ⟨z, H2, I2, rz, p, rfl, sz, np, rfl⟩ := z
  cases rz
  obtain ⟨st, _, _⟩ := I2.hok p _ upd_same
  have st : s2.heap.IsTupleIter p t 0 := st
  unfold PySem.W.OwitIt
  refine wpAny_bind (wpAny_typeOf st.typeIs (wpAny_of_eq PySem.F.slot_tuple_iterator_next.lookup ?_))
  have I3 := Inv.forget I2 upd_same
  rw [delH_new np] at I3
  refine ⟨p, [p], _, Itt X.K t, H1, rfl, I3, turn_tuple t p, st, fun c hc => ?_, q⟩
  have e : c = p := by simpa using hc
  subst e
  exact I1.fpOk sz np
end
end My

set_option Elab.async false
set_option linter.all false
set_option maxRecDepth 100000
namespace PySem.W
open Lean Elab Tactic Meta PySem PySem.Calls PyProof.Rows
section
variable {prog : Program} {w : World} {A : Around} {E : Value → Shared → Prop} {s : Shared} {K : Frag} {x C L f dx : Addr} {h₀ : Heap} {m : Str → Option Value} {nm T : String} {i : Int} {t : Tok}
end
end PySem.W
namespace PySem.W
open Lean Elab Tactic Meta PySem PySem.Calls PyProof.Rows
/-- the class at C stands over object alone -/
def plainMro (K : Frag) (C : Addr) : Bool := (clsIn K C).any fun cd => cd.mro == [.ref C, .type "object"]
section
variable {prog : Program} {w : World} {M : Model} {A : Around} {E : Value → Shared → Prop} {s : Shared} {K : Frag} {x C L f dx : Addr} {h₀ : Heap} {m : Str → Option Value} {nm : String} {ox : Obj} {od : Option Obj}
end
end PySem.W
namespace PySem.W
open Lean Elab Tactic Meta PySem PySem.Calls PyProof.Rows
section
variable {prog : Program} {w : World} {A : Around} {E : Value → Shared → Prop} {s : Shared} {K : Frag} {x C L f dx : Addr} {h₀ : Heap} {m : Str → Option Value} {nm' T : String} {ox : Obj} {od : Option Obj}
end
end PySem.W
namespace My
open PySem PySem.Spec PyProof.Rows L2
section
variable {X : Cx} {pins : List (Addr × Obj)} {σ : L2.St} {H : Hp} {s : Shared} {Q : VK} {C : Addr} {m : Str} {k : Nat} {ps : List Str} {sp : Sp} {f : Addr} {fd : FuncData}
end
end My

set_option Elab.async false
set_option linter.all false
set_option maxRecDepth 100000
namespace My
open PySem PySem.Spec PyProof.Rows L2
/-! ### properties, methods and makings by name -/
structure HasP (P : Program) (w : World) (K : PySem.W.Frag) (mg : Str → Option Value) (base : Heap) (C : Addr) (m : Str) (k : Nat) (ps : List Str) (sp : Sp) : Prop where
  ex : ∃ p g fd, FnOk P w K mg base CX0 k g fd ps sp ∧ PropOf K C m p g ∧ Binds K fd ps []
structure HasC (P : Program) (w : World) (K : PySem.W.Frag) (mg : Str → Option Value) (base : Heap) (x : Str) (C : Addr) (k : Nat) (ps : List Str) (sp : Sp) : Prop where
  ex : ∃ f fd, FnOk P w K mg base CX0 k f fd ps sp ∧ Mk K C f ∧ mg x = some (.ref C) ∧ Binds K fd ps []
section
variable {X : Cx} {C : Addr} {m x : Str} {k : Nat} {ps : List Str} {sp : Sp} {e o : Expr} {es : List Expr} {p pos apos : Pos} {ta : TE} {t : TA}
theorem pe_propH (c : Cls X.K C) (h : HasP X.prog X.w X.K X.mg X.base C m k ps sp) (hr : Room (k + 1) X.A) (he : PE X e ta) (hab : attributeBase e m X.env (eval e X.env) = eval e X.env := by rfl) : PE X (.Attribute e m pos) (tProp C sp [] E0 ta) := by
  obtain ⟨p, g, fd, F, hp, b⟩ := h.ex
  exact pe_prop he c hp F hr b .nil pass0 hab
theorem pe_meth0H {pl : Sem Bool} (c : Cls X.K C) (h : HasM X.prog X.w X.K X.mg X.base C m k ps sp) (hr : Room k X.A) (he : PE X o ta)
    (ht : eval (.Call (.Attribute o m apos) [] [] pos) X.env = (do
      let ov ← eval o X.env
      standAt apos.atName
      let (f, first) ← holding [ov] (getMethod ov m pl)
      callWith pos f first (backTo pos (starEach [] X.env)) (backToKw pos (keywordEach [] X.env))) := by rfl) : PE X (.Call (.Attribute o m apos) [] [] pos) (tMeth C m sp [] E0 ta tNil) := by
  obtain ⟨f, fd, F, hm, b⟩ := h.ex
  exact pe_meth0 he c hm F hr b .nil pass0 ht
theorem pe_makeH (h : HasC X.prog X.w X.K X.mg X.base x C k ps sp) (hr : Room (k + 1) X.A) (ha : PA X (e :: es) t) (hg : Gl X x := by rfl) (hdb : (x == ("__debug__" : Str)) = false := by decide)
    (he : starEach (e :: es) X.env = (false, eval e X.env) :: starEach es X.env := by rfl) (hpl : (backTo pos (starEach es X.env)).any (·.1) = false := by rfl) : PE X (.Call (.Name x p) (e :: es) [] pos) (tMake C sp [] E0 t) := by
  obtain ⟨f, fd, F, M, hm, b⟩ := h.ex
  exact pe_make M F hr hg hm b .nil pass0 ha hdb he hpl
end
section
variable {σ : L2.St} {H : Hp} {Q : VK} {C : Addr} {m : Str} {sp : Sp} {E : XK} {ta : TE} {t : TA} {K : PySem.W.Frag} {f : Str} {R : It → Hp → Prop} {D : Ends} {te : TE}
theorem r_prop (q : ta σ H fun x H1 => ∃ a dx fs, x = .ref a ∧ H1 a = some (.ins C dx fs) ∧ sp [.ref a] H1 Q E) : tProp C sp [] E ta σ H Q := q
theorem r_meth (q : ta σ H fun x H1 => ∃ a dx fs, x = .ref a ∧ H1 a = some (.ins C dx fs) ∧ fs.lookup m = none ∧ t σ H1 fun vs H2 => sp (x :: vs) H2 Q E) : tMeth C m sp [] E ta t σ H Q := by
  unfold tMeth
  simpa only [List.append_nil] using q
theorem r_make (q : t σ H fun vs H1 => ∀ x dx, H1 x = none → H1 dx = none → dx ≠ x → sp (.ref x :: vs) (upd (upd H1 dx (.own x)) x (.ins C dx [])) (fun v H2 => v = .non ∧ Q (.ref x) H2) E) : tMake C sp [] E t σ H Q := by
  unfold tMake
  simpa only [List.append_nil] using q
theorem r_iOwn (q : ta σ H fun x H1 => ∃ a dx fs b ys, x = .ref a ∧ H1 a = some (.ins C dx fs) ∧ fs.lookup f = some (.ref b) ∧ SqT K H1 b ys ∧ R (Itt K b) H1) : iOwn K C f ta σ H R := q
theorem r_sfld (q : te σ H fun v H1 => ta σ H1 fun x H2 => ∃ a C dx fs, x = .ref a ∧ H2 a = some (.ins C dx fs) ∧ Cls K C ∧ NoAttr K C f ∧ fs.length < 1000 ∧ D.nx σ (upd H2 a (.ins C dx (putF f v fs)))) : sFld K ta te f D σ H := q
theorem r_fld (q : ta σ H fun x H1 => ∃ a C dx fs v, x = .ref a ∧ H1 a = some (.ins C dx fs) ∧ Cls K C ∧ NoAttr K C f ∧ fs.lookup f = some v ∧ Q v H1) : tFld K ta f σ H Q := q
end
theorem pe_fldK {X : Cx} {K : PySem.W.Frag} {e : Expr} {f : Str} {pos : Pos} {ta : TE} (he : PE X e ta) (h : X.K = K := by rfl) (hb : attributeBase e f X.env (eval e X.env) = eval e X.env := by rfl) : PE X (.Attribute e f pos) (tFld K ta f) := by subst h; exact pe_fld he hb
section
variable {X : Cx} {K : PySem.W.Frag} {C : Addr} {k : Nat} {ps : List Str} {sp : Sp} {fld : Str} {tg l : Expr} {tl : TE}
theorem pi_ownK (hl : PE X l tl) (h : HasS X.prog X.w X.K X.mg X.base C "__iter__" k ps (spIter K C fld)) (hr : Room k X.A) (e : X.K = K := by rfl) : PI X tg l (iOwn K C fld tl) := by subst e; exact pi_own hl h hr
end
theorem pg_tupK {X : Cx} {K : PySem.W.Frag} {es : List Expr} {k : Nat} {t : TGs} {n : Nat} {pos : Pos} (hc : X.calm = true) (h : PGs X es t) (e : X.K = K := by rfl)
    (hn : (assignEach es X.env).length = n := by rfl) (hst : (assignEach es X.env).findIdx? (·.1) = none := by rfl) : PG X (.Tuple es k pos) (gTup K n t) := by subst e; exact pg_tup hc h hn hst
/-! ### polynomials -/
/-- what the text has made of the class Poly -/
structure PolyT (K : PySem.W.Frag) (mg : Str → Option Value) (C : Addr) : Prop where
  cl : Cls K C
  nR : NoAttr K C "rows"
  mgC : mg "Poly" = some (.ref C)
  self : PySem.W.selfFirst K C = true
  mro : PySem.W.plainMro K C = true
  ca : PySem.W.findIn K (.ref C) "__class__" = some (some (.builtin "object.__class__"))
  cn : PySem.W.specialIn K (.builtin "object.__class__") "__get__" = some (some (.builtin "getset_descriptor.__get__"))
  ct : PySem.W.takesIn K (.builtin "object.__class__") = some true
  cm : PySem.W.mroIn K C (.type "object") = some true
  cs : ∃ cd, PySem.W.clsIn K C = some cd
  ty : PySem.W.typeIn K (.ref C) = some (.type "type")
  sInt : PySem.W.subIn K (.type "int") (.ref C) = some false
  sBool : PySem.W.subIn K (.type "bool") (.ref C) = some false
  sStr : PySem.W.subIn K (.type "str") (.ref C) = some false
  sList : PySem.W.subIn K (.type "list") (.ref C) = some false
  sTup : PySem.W.subIn K (.type "tuple") (.ref C) = some false
  sNone : PySem.W.subIn K (.type "NoneType") (.ref C) = some false
  tInt : PySem.W.subIn K (.ref C) (.type "int") = some false
  tBool : PySem.W.subIn K (.ref C) (.type "bool") = some false
  tList : PySem.W.subIn K (.ref C) (.type "list") = some false
  tTup : PySem.W.subIn K (.ref C) (.type "tuple") = some false
theorem kit_no {K : PySem.W.Frag} {C : Addr} {t : Value} (cs : ∃ cd, PySem.W.clsIn K C = some cd) (ty : PySem.W.typeIn K (.ref C) = some (.type "type")) (s : PySem.W.subIn K t (.ref C) = some false) (ne : (t == .ref C) = false) : PySem.W.kitOne K t (.ref C) = some false := by
  obtain ⟨cd, e⟩ := cs
  unfold PySem.W.kitOne PySem.W.kitCls
  rw [ne, if_neg Bool.false_ne_true]
  show (if ((PySem.W.clsIn K C).isSome && PySem.W.typeIn K (.ref C) == some (.type "type")) = true then PySem.W.subIn K t (.ref C) else none) = some false
  rw [e, ty, if_pos (by simp)]
  exact s
theorem kit_self {K : PySem.W.Frag} {C : Addr} : PySem.W.kitOne K (.ref C) (.ref C) = some true := by
  unfold PySem.W.kitOne
  rw [if_pos (beq_self_eq_true _)]
/-- a polynomial with these terms -/
def PolyAt (C : Addr) (H : Hp) (a : Addr) (ts : Terms) : Prop := ∃ dx r vs, H a = some (.ins C dx [("rows", .ref r)]) ∧ H r = some (.tup vs) ∧ TermsL H vs ts ∧ Canon ts
theorem rows_look {v : V} : ([(("rows" : Str), v)] : List (Str × V)).lookup ("rows" : Str) = some v := by simp [List.lookup]
/-- what is neither a list nor a dict stays -/
def Stay (H H' : Hp) : Prop := ∀ c o, (∀ xs, o ≠ .lst xs) → (∀ kvs, o ≠ .dK kvs) → H c = some o → H' c = some o
theorem Stay.tk {H H' : Hp} (s : Stay H H') : Tk H H' := fun c xs e => s c _ (by intro _ z; cases z) (by intro _ z; cases z) e
theorem Stay.same {H H' : Hp} (s : Same H H') : Stay H H' := fun c o _ _ e => s c o e
theorem Stay.but {H H' : Hp} {a : Addr} {xs : List V} (b : But a H H') (h : H a = some (.lst xs)) : Stay H H' := fun c o n _ e => b c o (by rintro rfl; rw [h] at e; cases e; exact n _ rfl) e
theorem Stay.bag {H H' : Hp} {a : Addr} (b : But a H H') (h : Bag H a) : Stay H H' := let ⟨_, _, _, e, _⟩ := h; Stay.but b e
theorem Stay.trans {H H1 H2 : Hp} (s : Stay H H1) (t : Stay H1 H2) : Stay H H2 := fun c o n m e => t c o n m (s c o n m e)
theorem Stay.refl (H : Hp) : Stay H H := fun _ _ _ _ e => e
theorem Stay.new {H H' : Hp} {p : Addr} {o : HO} (h : Stay H H') (n : H' p = none) : Stay H (upd H' p o) := fun c u x y e => h_keep (h c u x y e) n
theorem Stay.lst {H H' : Hp} {p : Addr} {l : List V} {o : HO} (h : Stay H H') (n : H' p = some (.lst l)) : Stay H (upd H' p o) := fun c u x y e => by
  have q := h c u x y e
  refine (upd_ne ?_).trans q
  rintro rfl
  rw [n] at q
  cases q
  exact x _ rfl
theorem PolyAt.stay {C : Addr} {H H' : Hp} {a : Addr} {ts : Terms} (h : PolyAt C H a ts) (s : Stay H H') : PolyAt C H' a ts := let ⟨dx, r, vs, h1, h2, h3, h4⟩ := h; ⟨dx, r, vs, s _ _ (by intro _ z; cases z) (by intro _ z; cases z) h1, s.tk _ _ h2, h3.tk s.tk, h4⟩
theorem PolyAt.same {C : Addr} {H H' : Hp} {a : Addr} {ts : Terms} (h : PolyAt C H a ts) (s : Same H H') : PolyAt C H' a ts := h.stay (.same s)
section
variable {K : PySem.W.Frag} {mg : Str → Option Value} {C : Addr} {H : Hp} {Q : VK} {a : Addr} {ts : Terms}
theorem ty_poly (T : PolyT K mg C) {dx : Addr} {fs : List (Str × V)} (h : H a = some (.ins C dx fs)) : TyX K H (.ref a) (.ref C) := .base (.ins h T.cl T.ca T.cn T.ct T.cm)
theorem r_isPoly (T : PolyT K mg C) {dx : Addr} {fs : List (Str × V)} (h : H a = some (.ins C dx fs)) (q : Q (.bl true) H) : rIsi K [.ref a, .ref C] H Q := ⟨_, _, _, _, true, rfl, .own C, ty_poly T h, kit_self, q⟩
theorem r_isPolyI (T : PolyT K mg C) {i : Int} (q : Q (.bl false) H) : rIsi K [.int i, .ref C] H Q := ⟨_, _, _, _, false, rfl, .own C, ty_int, kit_no T.cs T.ty T.sInt rfl, q⟩
theorem kit_bi {K : PySem.W.Frag} {C : Addr} {t : String} (m : PySem.W.kitMeta t = true) (s : PySem.W.subIn K (.ref C) (.type t) = some false) : PySem.W.kitOne K (.ref C) (.type t) = some false := by
  unfold PySem.W.kitOne PySem.W.kitCls
  rw [if_neg (by simp)]
  show (if PySem.W.kitMeta t = true then PySem.W.subIn K (.ref C) (.type t) else none) = some false
  rw [if_pos m]
  exact s
theorem r_polyInt (T : PolyT K mg C) {dx : Addr} {fs : List (Str × V)} (h : H a = some (.ins C dx fs)) (q : Q (.bl false) H) : rIsi K [.ref a, .ty "int"] H Q := ⟨_, _, _, _, false, rfl, .ty _, ty_poly T h, kit_bi (by decide +kernel) T.tInt, q⟩
end
theorem u_rowsAt {K : PySem.W.Frag} {mg : Str → Option Value} {C : Addr} {H : Hp} {a : Addr} {dx : Addr} {fv : V} (T : PolyT K mg C) (h : H a = some (.ins C dx [("rows", fv)])) {R : V → Prop} (q : R fv) :
    ∃ b D dx fs v, V.ref a = .ref b ∧ H b = some (.ins D dx fs) ∧ Cls K D ∧ NoAttr K D "rows" ∧ fs.lookup ("rows" : Str) = some v ∧ R v := ⟨a, C, dx, _, fv, rfl, h, T.cl, T.nR, rows_look, q⟩
/-- is_integer of any value -/
theorem u_isInt {K : PySem.W.Frag} {H : Hp} {Q : VK} {E : XK} {i : Int} (q : Q (.bl true) H) : spIsIntT K [.int i] H Q E := ⟨_, _, true, false, rfl, .x ty_int, kit_ty (by decide +kernel), kit_ty (by decide +kernel), q⟩
theorem u_isIntP {K : PySem.W.Frag} {mg : Str → Option Value} {C : Addr} {H : Hp} {Q : VK} {E : XK} {a dx : Addr} {fs : List (Str × V)} (T : PolyT K mg C) (h : H a = some (.ins C dx fs)) (q : Q (.bl false) H) : spIsIntT K [.ref a] H Q E :=
  ⟨_, _, false, false, rfl, .x (ty_poly T h), kit_bi (by decide +kernel) T.tInt, kit_bi (by decide +kernel) T.tBool, q⟩
theorem r_isiE {K : PySem.W.Frag} {H : Hp} {Q : VK} {x c : V} {t u : Value} {b : Bool} (hc : ClsV c u) (ty : TyE K H x t) (k : PySem.W.kitOne K t u = some b) (q : Q (.bl b) H) : rIsiE K [x, c] H Q := ⟨x, c, t, u, b, rfl, hc, ty, k, q⟩
def negT (ts : Terms) : Terms := ts.map fun p => (p.1, -p.2)
def mirT (ts : Terms) : Terms := ts.map fun p => (-p.1, p.2)
def shiftT (n : Int) (ts : Terms) : Terms := ts.map fun p => (p.1 + n, p.2)
theorem cof_neg : ∀ (ts : Terms) (k : Int), cof (negT ts) k = -cof ts k
  | [], k => rfl
  | p :: ts, k => by
    show (if p.1 = k then -p.2 else 0) + cof (negT ts) k = -((if p.1 = k then p.2 else 0) + cof ts k)
    rw [cof_neg ts k]
    split <;> omega
theorem cof_mir : ∀ (ts : Terms) (k : Int), cof (mirT ts) k = cof ts (-k)
  | [], k => rfl
  | p :: ts, k => by
    show (if -p.1 = k then p.2 else 0) + cof (mirT ts) k = (if p.1 = -k then p.2 else 0) + cof ts (-k)
    rw [cof_mir ts k]
    by_cases h : p.1 = -k
    · rw [if_pos h, if_pos (by omega)]
    · rw [if_neg h, if_neg (by omega)]
theorem cof_shift (n : Int) : ∀ (ts : Terms) (k : Int), cof (shiftT n ts) k = cof ts (k - n)
  | [], k => rfl
  | p :: ts, k => by
    show (if p.1 + n = k then p.2 else 0) + cof (shiftT n ts) k = (if p.1 = k - n then p.2 else 0) + cof ts (k - n)
    rw [cof_shift n ts k]
    by_cases h : p.1 = k - n
    · rw [if_pos h, if_pos (by omega)]
    · rw [if_neg h, if_neg (by omega)]
/-! ### promises -/
def spIsTerm : Sp := fun vs H Q _ => ∃ (p : Addr) (x y : Int), vs = [.ref p] ∧ H p = some (.tup [.int x, .int y]) ∧ Q (.bl true) H
def spSummed : Sp := fun vs H Q _ => ∃ (l : Addr) (ts : Terms), vs = [.ref l] ∧ TermsAt H l ts ∧ ts.length ≤ 90000 ∧
  ∀ r us ws H', H r = none → Same H H' → H' r = some (.tup ws) → TermsL H' ws us → Canon us → (∀ k, cof us k = cof ts k) → us.length ≤ ts.length → Q (.ref r) H'
def spInit (C : Addr) : Sp := fun vs H Q _ => ∃ (x dx l : Addr) (ts : Terms), vs = [.ref x, .ref l] ∧ H x = some (.ins C dx []) ∧ TermsAt H l ts ∧ ts.length ≤ 90000 ∧
  ∀ us H', But x H H' → PolyAt C H' x us → (∀ k, cof us k = cof ts k) → us.length ≤ ts.length → Q .non H'
/-- Poly(..) -/
theorem u_poly {C : Addr} {H : Hp} {R : Addr → Hp → Prop} {E : XK} {l : Addr} {ts : Terms} (h : TermsAt H l ts) (hn : ts.length ≤ 90000) (q : ∀ a us H', H a = none → Same H H' → PolyAt C H' a us → (∀ k, cof us k = cof ts k) → us.length ≤ ts.length → R a H') :
    ∀ x dx, H x = none → H dx = none → dx ≠ x → spInit C [.ref x, .ref l] (upd (upd H dx (.own x)) x (.ins C dx [])) (fun v H2 => v = .non ∧ R x H2) E := by
  intro x dx nx ndx ne
  have s1 : Same H (upd (upd H dx (.own x)) x (.ins C dx [])) := Same.put (Same.new0 ndx) nx
  refine ⟨x, dx, l, ts, rfl, upd_same, h.same s1, hn, fun us H' b hp hc hl => ⟨rfl, ?_⟩⟩
  exact q x us H' nx (Same.but2 s1 nx b) hp hc hl
/-- v stands for the polynomial with the numbers c: a Poly, or an int -/
def IsVal (C : Addr) (H : Hp) (v : V) (c : Int → Int) (n : Nat) : Prop := (∃ a ts, v = .ref a ∧ PolyAt C H a ts ∧ (∀ k, cof ts k = c k) ∧ ts.length ≤ n) ∨ (∃ i, v = .int i ∧ (∀ k, c k = if k = 0 then i else 0) ∧ 1 ≤ n)
theorem IsVal.same {C : Addr} {H H' : Hp} {v : V} {c : Int → Int} {n : Nat} (h : IsVal C H v c n) (s : Same H H') : IsVal C H' v c n := by
  rcases h with ⟨a, ts, e, ha, r⟩ | h
  · exact .inl ⟨a, ts, e, ha.same s, r⟩
  · exact .inr h
def spAsPoly (C : Addr) : Sp := fun vs H Q _ => ∃ v c n, vs = [v] ∧ IsVal C H v c n ∧ ∀ a ts H', Same H H' → PolyAt C H' a ts → (∀ k, cof ts k = c k) → ts.length ≤ n → Q (.ref a) H'
/-- a def of one polynomial that gives a new one -/
def spPoly1 (C : Addr) (f : Terms → Int → Int) : Sp := fun vs H Q _ => ∃ a ts, vs = [.ref a] ∧ PolyAt C H a ts ∧ ts.length ≤ 90000 ∧ ∀ b us H', Same H H' → PolyAt C H' b us → (∀ k, cof us k = f ts k) → us.length ≤ ts.length → Q (.ref b) H'
/-- an operator: self and a value -/
def spPoly2 (C : Addr) (f : (Int → Int) → (Int → Int) → Int → Int) : Sp := fun vs H Q _ => ∃ a ts v c n, vs = [.ref a, v] ∧ PolyAt C H a ts ∧ IsVal C H v c n ∧ ts.length + n ≤ 90000 ∧ ∀ b us H', Same H H' → PolyAt C H' b us → (∀ k, cof us k = f (cof ts) c k) → us.length ≤ ts.length + n → Q (.ref b) H'
def spGetTerms (C : Addr) : Sp := fun vs H Q _ => ∃ a ts, vs = [.ref a] ∧ PolyAt C H a ts ∧ ∀ l H', H l = none → Same H H' → TermsAt H' l ts → Q (.ref l) H'
def spanOf (ts : Terms) : Int := match ts.head?, ts.getLast? with | some p, some q => q.1 - p.1 | _, _ => 0
def spGetSpan (C : Addr) : Sp := fun vs H Q _ => ∃ a ts, vs = [.ref a] ∧ PolyAt C H a ts ∧ Q (.int (spanOf ts)) H
def spPLen (C : Addr) : Sp := fun vs H Q _ => ∃ a ts, vs = [.ref a] ∧ PolyAt C H a ts ∧ Q (.int ts.length) H
end My

set_option Elab.async false
set_option linter.all false
set_option maxRecDepth 100000
namespace My
open PySem PySem.Spec PyProof.Rows L2
/-! ### for k in d: the dict is locked meanwhile -/
section
variable {σ : L2.St} {H : Hp} {Q : VK} {K : PySem.W.Frag} {td te : TE} {D : Ends} {t tb : TS} {g : TG} {R : It → Hp → Prop}
theorem r_iKeys (q : td σ H fun x H1 => ∃ d o, x = .ref d ∧ ((∃ kvs, H1 d = some (.frz o (.dK kvs)) ∧ R (Itk d o kvs) H1) ∨ ∃ kvs, H1 d = some (.frz o (.dT kvs)) ∧ R (Itkt d o kvs) H1)) : iKeys td σ H R := q
theorem u_keys {d : Addr} {od : Obj} {kvs : List (Key × V)} (I : Nat → L2.St → Hp → Prop) (h0 : I 0 σ H) (hl : ∀ i σ H, I i σ H → H d = some (.frz od (.dK kvs)))
    (hs : ∀ i k v σ H, kvs[i]? = some (k, v) → I i σ H → g (kV k) σ H fun σ2 H2 => tb { D with nx := I (i + 1), ct := I (i + 1), bk := D.nx } σ2 H2) (hd : ∀ σ H, I kvs.length σ H → D.nx σ H) :
    ∃ W : Nat → Nat → L2.St → Hp → Prop, (∃ m, W 0 m σ H) ∧ ∀ i m σ H, W i m σ H →
      ((Itk d od kvs).stop i H ∧ D.nx σ H) ∨ ((Itk d od kvs).go i H ∧ ∃ N : L2.St → Hp → Prop, (∀ σ' H', N σ' H' → ∃ m', m' < m ∧ W (i + 1) m' σ' H') ∧ ∀ x H', (Itk d od kvs).yld i H x H' → g x σ H' fun σ2 H2 => tb { D with nx := N, ct := N, bk := D.nx } σ2 H2) := by
  refine ⟨fun i m σ' H' => m = kvs.length - i ∧ i ≤ kvs.length ∧ I i σ' H', ⟨kvs.length, rfl, Nat.zero_le _, h0⟩, ?_⟩
  rintro i m σ' H' ⟨rfl, hi, ir⟩
  by_cases hlt : i < kvs.length
  · refine .inr ⟨⟨hl _ _ _ ir, hlt⟩, I (i + 1), fun σ2 H2 q => ⟨_, by omega, rfl, hlt, q⟩, fun x H2 hy => ?_⟩
    obtain ⟨rfl, k, v, e, rfl⟩ := hy
    exact hs i k v _ _ e ir
  · have e : i = kvs.length := by omega
    subst e
    exact .inl ⟨⟨hl _ _ _ ir, Nat.le_refl _⟩, hd _ _ ir⟩
end
/-- the jar at a, locked by a walk -/
def JarFz (H : Hp) (a : Addr) (od : Obj) (kvs : List (Key × V)) : Prop := H a = some (.frz od (.dK kvs))
theorem JarFz.dget {H : Hp} {a : Addr} {od : Obj} {kvs : List (Key × V)} {k : Int} (h : H a = some (.frz od (.dK kvs))) (hk : JarK kvs) (m : Sum.inl k ∈ kvs.map (·.1)) : DGet H a (.int k) (some (.int (cfK kvs k))) :=
  .inl ⟨kvs, .inl k, .inr ⟨od, h⟩, rfl, (hk.some m).symm⟩
/-! ### promises of the law's defs -/
def spJarOf : Sp := fun vs H Q _ => ∃ (l : Addr) (ts : Terms), vs = [.ref l] ∧ TermsAt H l ts ∧ ts.length ≤ 90000 ∧ ∀ d H', H d = none → Same H H' → JarAt H' d ts.length (cof ts) → Q (.ref d) H'
def spIsPoly (C : Addr) : Sp := fun vs H Q _ => ∃ a ts d n c, vs = [.ref a, .ref d] ∧ PolyAt C H a ts ∧ JarAt H d n c ∧ (∀ k, cof ts k = c k) ∧ n ≤ 90000 ∧ ts.length ≤ 90000 ∧ ∀ H', Same H H' → Q (.bl true) H'
def spMade (C : Addr) : Sp := fun vs H Q _ => ∃ (a d : Addr) (n : Nat) (c : Int → Int), vs = [.ref a, .ref d] ∧ Bag H a ∧ JarAt H d n c ∧ n ≤ 80000 ∧ ∀ b ts H', But a H H' → Bag H' a → PolyAt C H' b ts → (∀ k, cof ts k = c k) → ts.length ≤ n + 2 → Q (.ref b) H'
theorem atI_nil_of {xs : List V} {n : Int} {i : Nat} {x : V} (h0 : n = (i : Int)) (h : xs[i]? = some x) : atI xs n = some x := by
  subst h0
  obtain ⟨hi, _⟩ := List.getElem?_eq_some_iff.mp h
  unfold atI ixN
  rw [if_pos (by omega), if_pos (by omega)]
  exact h
end My

set_option Elab.async false
set_option linter.all false
set_option maxRecDepth 100000
namespace My
open PySem PySem.Spec PyProof.Rows L2
theorem TermsL.take {H : Hp} : ∀ {vs : List V} {ts : Terms} (n : Nat), TermsL H vs ts → TermsL H (vs.take n) (ts.take n)
  | [], ts, n, h => by rw [show ts = [] from h]; simp; rfl
  | _ :: _, _, 0, _ => by simp; rfl
  | v :: vs, _, n + 1, ⟨b, p, us, e1, e2, e3, e4⟩ => by
    rw [e1, List.take_succ_cons, List.take_succ_cons]
    exact ⟨b, p, us.take n, rfl, e2, e3, e4.take n⟩
theorem TermsL.drop {H : Hp} : ∀ {vs : List V} {ts : Terms} (n : Nat), TermsL H vs ts → TermsL H (vs.drop n) (ts.drop n)
  | [], ts, n, h => by rw [show ts = [] from h]; simp; rfl
  | _ :: _, _, 0, h => h
  | v :: vs, _, n + 1, ⟨b, p, us, e1, e2, e3, e4⟩ => by
    rw [e1, List.drop_succ_cons, List.drop_succ_cons]
    exact e4.drop n
theorem TermsL.reverse {H : Hp} : ∀ {vs : List V} {ts : Terms}, TermsL H vs ts → TermsL H vs.reverse ts.reverse
  | [], ts, h => by rw [show ts = [] from h]; rfl
  | v :: vs, _, ⟨b, p, us, e1, e2, e3, e4⟩ => by
    rw [e1, List.reverse_cons, List.reverse_cons, e2]
    exact e4.reverse.app (.one e3)
theorem TermsL.mem {H : Hp} {vs : List V} {ts : Terms} (h : TermsL H vs ts) : ∀ x ∈ vs, ∃ (b : Addr) (p : Int × Int), x = .ref b ∧ H b = some (.tup [.int p.1, .int p.2]) := by
  intro x hx
  obtain ⟨i, hi⟩ := List.getElem?_of_mem hx
  obtain ⟨b, p, e1, e2, e3⟩ := h.at i hi
  exact ⟨b, p, e1, e3⟩
theorem cut_drop (xs : List V) (n : Nat) : cutV xs (some (n : Int)) none = xs.drop n := by
  unfold cutV
  rw [HT.sIx_none, HT.sIx_nat]
  by_cases h : n ≤ xs.length
  · rw [Nat.min_eq_left h, List.take_of_length_le (by rw [List.length_drop]; omega)]
  · rw [Nat.min_eq_right (by omega), List.drop_eq_nil_of_le (Nat.le_refl _), List.take_nil, List.drop_eq_nil_of_le (by omega)]
theorem cof_rev : ∀ (ts : Terms) (k : Int), cof ts.reverse k = cof ts k
  | [], k => rfl
  | p :: ts, k => by
    rw [List.reverse_cons, cof_app, cof_rev ts k, cof, cof, cof]; omega
theorem cof_cut (ts : Terms) (n : Nat) (k : Int) : cof (ts.take n) k + cof (ts.drop n) k = cof ts k := by
  rw [← cof_app, List.take_append_drop]
theorem cut_takeI {xs : List V} {m : Int} (h : 0 ≤ m) : cutV xs none (some m) = xs.take m.toNat := by
  have := cut_take xs m.toNat
  rw [Int.toNat_of_nonneg h] at this
  exact this
theorem cut_dropI {xs : List V} {m : Int} (h : 0 ≤ m) : cutV xs (some m) none = xs.drop m.toNat := by
  have := cut_drop xs m.toNat
  rw [Int.toNat_of_nonneg h] at this
  exact this
end My

set_option Elab.async false
set_option linter.all false
set_option maxRecDepth 100000
namespace My
open PySem PySem.Spec PyProof.Rows L2
theorem JarAt.nb {H : Hp} {a b : Addr} {n : Nat} {c : Int → Int} (h : JarAt H a n c) (hb : Bag H b) : a ≠ b := by
  rintro rfl
  obtain ⟨_, e, _⟩ := h
  obtain ⟨_, _, _, e', _⟩ := hb
  rw [e] at e'
  cases e'
theorem JarAt.bag {H H' : Hp} {a b : Addr} {n : Nat} {c : Int → Int} (h : JarAt H a n c) (s : But b H H') (hb : Bag H b) : JarAt H' a n c := h.but (h.nb hb) s
theorem PolyAt.bag {C : Addr} {H H' : Hp} {a b : Addr} {ts : Terms} (h : PolyAt C H a ts) (s : But b H H') (hb : Bag H b) : PolyAt C H' a ts := h.stay (.bag s hb)
/-- a pair of what was found and the jar that is due -/
def DueAt (C : Addr) (H : Hp) (x : V) : Prop := ∃ (t b d : Addr) (ts : Terms) (n : Nat) (c : Int → Int), x = .ref t ∧ H t = some (.tup [.ref b, .ref d]) ∧ PolyAt C H b ts ∧ JarAt H d n c ∧ (∀ k, cof ts k = c k) ∧ n ≤ 90000 ∧ ts.length ≤ 90000
theorem DueAt.same {C : Addr} {H H' : Hp} {x : V} (h : DueAt C H x) (s : Same H H') : DueAt C H' x := by
  obtain ⟨t, b, d, ts, n, c, e, h1, h2, h3, h4⟩ := h
  exact ⟨t, b, d, ts, n, c, e, s _ _ h1, h2.same s, h3.same s, h4⟩
def DuesL (C : Addr) (H : Hp) (a : Addr) (m : Nat) : Prop := ∃ xs, H a = some (.lst xs) ∧ xs.length = m ∧ ∀ x ∈ xs, DueAt C H x
theorem DuesL.same {C : Addr} {H H' : Hp} {a : Addr} {m : Nat} (h : DuesL C H a m) (s : Same H H') : DuesL C H' a m := by
  obtain ⟨xs, e, h1, h2⟩ := h
  exact ⟨xs, s _ _ e, h1, fun x hx => (h2 x hx).same s⟩
def one0 (i : Int) : Int → Int := fun k => if k = 0 then i else 0
/-- two jars, two polynomials and the jar of one number -/
structure Five (C : Addr) (H : Hp) (j p f one two : Addr) (n1 n2 : Nat) (c1 c2 : Int → Int) (co : Int) (o1 o2 : Terms) : Prop where
  j : JarAt H j n1 c1
  p : JarAt H p n2 c2
  f : JarAt H f 1 (one0 co)
  one : PolyAt C H one o1
  two : PolyAt C H two o2
theorem Five.same {C : Addr} {H H' : Hp} {j p f one two : Addr} {n1 n2 : Nat} {c1 c2 : Int → Int} {co : Int} {o1 o2 : Terms} (h : Five C H j p f one two n1 n2 c1 c2 co o1 o2) (s : Same H H') : Five C H' j p f one two n1 n2 c1 c2 co o1 o2 :=
  ⟨h.j.same s, h.p.same s, h.f.same s, h.one.same s, h.two.same s⟩
section
variable {σ : L2.St} {H : Hp} {Q : VK} {td ty tk tv : TE} {trs : List (TE × TE)}
theorem rl_disp (q : ∀ p, H p = none → tPairs trs σ (upd H p (.dK [])) fun ps H2 => H2 p = some (.dK []) ∧ ∃ kvs : List (Key × V), ps = kvs.map (fun kv => (kV kv.1, kv.2)) ∧ kvs.length ≤ 15 ∧ Q (.ref p) (upd H2 p (.dK (mergeK [] kvs)))) : tDisp trs σ H Q := q
theorem rl_pc {R : List (V × V) → Hp → Prop} (q : tk σ H fun x H1 => tv σ H1 fun y H2 => tPairs trs σ H2 fun ps H3 => R ((x, y) :: ps) H3) : tPairs ((tk, tv) :: trs) σ H R := q
theorem rl_pn {R : List (V × V) → Hp → Prop} (q : R [] H) : tPairs [] σ H R := q
end
end My

set_option Elab.async false
set_option linter.all false
set_option maxRecDepth 100000
namespace My
open PySem PySem.Spec PyProof.Rows L2
/-! ### comprehensions with two loops -/
section
variable {K : PySem.W.Frag} {a p : Addr} {xs : List V} {σ : L2.St} {H : Hp} {D : Addr} {g : TG} {tt : TT} {vs : List Nat}
theorem lc_tupB {H0 : Hp} {Qd : Hp → Prop} {body : (Hp → Prop) → L2.St → Hp → Prop} (Pv : Nat → Hp → Prop) (h0 : Pv 0 H0) (hl : ∀ i H, i ≤ xs.length → Pv i H → SqT K H a xs)
    (hs : ∀ i x H, xs[i]? = some x → Pv i H → g x (wipe σ vs) H fun σ2 H2 => wipe σ2 vs = wipe σ vs ∧ tt σ2 H2 fun b H3 => if b = true then body (Pv (i + 1)) σ2 H3 else Pv (i + 1) H3) (hd : ∀ H, Pv xs.length H → Qd H) :
    ∃ W : Nat → Nat → Hp → Prop, (∃ m, W 0 m H0) ∧ ∀ i m H, W i m H →
      ((Itt K a).stop i H ∧ Qd H) ∨ ((Itt K a).go i H ∧ ∃ Nx : Hp → Prop, (∀ H', Nx H' → ∃ m', m' < m ∧ W (i + 1) m' H') ∧ ∀ x H', (Itt K a).yld i H x H' → g x (wipe σ vs) H' fun σ2 H2 => wipe σ2 vs = wipe σ vs ∧ tt σ2 H2 fun b H3 =>
        if b = true then body Nx σ2 H3 else Nx H3) := by
  refine ⟨fun i m H => m = xs.length - i ∧ i ≤ xs.length ∧ Pv i H, ⟨xs.length, by simp, Nat.zero_le _, h0⟩, ?_⟩
  rintro i m H ⟨rfl, hi, p⟩
  have q := hl i H hi p
  by_cases hlt : i < xs.length
  · refine .inr ⟨⟨xs, xs[i], q, by simp [hlt]⟩, Pv (i + 1), fun H' p' => ⟨xs.length - (i + 1), by omega, rfl, hlt, p'⟩, fun x H' y => ?_⟩
    obtain ⟨e, y⟩ := y
    subst e
    exact hs i x _ (y xs q) p
  · have e : i = xs.length := by omega
    subst e
    exact .inl ⟨⟨xs, q, Nat.le_refl _⟩, hd H p⟩
def LcNext (D : Addr) (I : Addr → Nat → List V → Hp → Prop) (i : Nat) : Hp → Prop := fun H => ∃ acc, H D = some (.lst acc) ∧ I D (i + 1) acc H
theorem u_lcO {Qd : Addr → Hp → Prop} {body : Addr → (Hp → Prop) → L2.St → Hp → Prop} (h : SqT K H p xs) (I : Addr → Nat → List V → Hp → Prop) (h0 : ∀ D, H D = none → I D 0 [] (upd H D (.lst [])))
    (hl : ∀ D i acc H', H D = none → H' D = some (.lst acc) → I D i acc H' → SqT K H' p xs)
    (hs : ∀ D i x acc H', H D = none → xs[i]? = some x → H' D = some (.lst acc) → I D i acc H' → g x (wipe σ vs) H' fun σ2 H2 => wipe σ2 vs = wipe σ vs ∧ tt σ2 H2 fun b H3 => if b = true then body D (LcNext D I i) σ2 H3 else LcNext D I i H3)
    (hd : ∀ D acc H', H D = none → H' D = some (.lst acc) → I D xs.length acc H' → Qd D H') :
    ∃ a, V.ref p = .ref a ∧ (∃ xs, SqT K H a xs) ∧ ∀ D, H D = none → ∃ W : Nat → Nat → Hp → Prop, (∃ m, W 0 m (upd H D (.lst []))) ∧ ∀ i m H, W i m H →
      ((Itt K a).stop i H ∧ Qd D H) ∨ ((Itt K a).go i H ∧ ∃ Nx : Hp → Prop, (∀ H', Nx H' → ∃ m', m' < m ∧ W (i + 1) m' H') ∧ ∀ x H', (Itt K a).yld i H x H' → g x (wipe σ vs) H' fun σ2 H2 => wipe σ2 vs = wipe σ vs ∧ tt σ2 H2 fun b H3 =>
        if b = true then body D Nx σ2 H3 else Nx H3) :=
  ⟨p, rfl, ⟨xs, h⟩, fun D hD => lc_tupB (xs := xs) (body := body D) (fun i H' => ∃ acc, H' D = some (.lst acc) ∧ I D i acc H') ⟨[], upd_same, h0 D hD⟩ (fun i H' _ ⟨acc, e, q⟩ => hl D i acc H' hD e q)
    (fun i x H' hi ⟨acc, e, q⟩ => hs D i x acc H' hD hi e q) fun H' ⟨acc, e, q⟩ => hd D acc H' hD e q⟩
theorem u_lcI {te : TE} {Nx : Hp → Prop} {acc0 : List V} (h : SqT K H p xs) (I : Addr → Nat → List V → Hp → Prop) (hD : H D = some (.lst acc0)) (h0 : I D 0 acc0 H)
    (hl : ∀ i acc H', H' D = some (.lst acc) → I D i acc H' → SqT K H' p xs)
    (hs : ∀ i x acc H', xs[i]? = some x → H' D = some (.lst acc) → I D i acc H' → g x (wipe σ vs) H' fun σ2 H2 => wipe σ2 vs = wipe σ vs ∧ tt σ2 H2 fun b H3 => if b = true then te σ2 H3 fun y H4 => LcPush D I i H4 y else LcSkip D I i H3)
    (hd : ∀ acc H', H' D = some (.lst acc) → I D xs.length acc H' → Nx H') :
    ∃ a, V.ref p = .ref a ∧ (∃ xs, SqT K H a xs) ∧ ∃ W : Nat → Nat → Hp → Prop, (∃ m, W 0 m H) ∧ ∀ i m H, W i m H →
      ((Itt K a).stop i H ∧ Nx H) ∨ ((Itt K a).go i H ∧ ∃ Nx1 : Hp → Prop, (∀ H', Nx1 H' → ∃ m', m' < m ∧ W (i + 1) m' H') ∧ ∀ x H', (Itt K a).yld i H x H' → g x (wipe σ vs) H' fun σ2 H2 => wipe σ2 vs = wipe σ vs ∧ tt σ2 H2 fun b H3 =>
        if b = true then te σ2 H3 fun y H4 => ∃ acc, H4 D = some (.lst acc) ∧ acc.length < sizeLine ∧ Nx1 (upd H4 D (.lst (acc ++ [y]))) else Nx1 H3) :=
  ⟨p, rfl, ⟨xs, h⟩, lc_tupB (xs := xs) (body := fun Nx1 σ2 H3 => te σ2 H3 fun y H4 => ∃ acc, H4 D = some (.lst acc) ∧ acc.length < sizeLine ∧ Nx1 (upd H4 D (.lst (acc ++ [y])))) (fun i H' => ∃ acc, H' D = some (.lst acc) ∧ I D i acc H') ⟨acc0, hD, h0⟩ (fun i H' _ ⟨acc, e, q⟩ => hl i acc H' e q)
    (fun i x H' hi ⟨acc, e, q⟩ => hs i x acc H' hi e q) fun H' ⟨acc, e, q⟩ => hd acc H' e q⟩
theorem r_lc2 {Q : VK} {wi wi1 : TI} {g1 : TG} {tt1 : TT} {te : TE} {vs1 : List Nat} (q : wi σ H fun J H1 => ∀ D, H1 D = none → ∃ W : Nat → Nat → Hp → Prop, (∃ m, W 0 m (upd H1 D (.lst []))) ∧ ∀ i m H, W i m H →
  (J.stop i H ∧ Q (.ref D) H) ∨ (J.go i H ∧ ∃ Nx : Hp → Prop, (∀ H', Nx H' → ∃ m', m' < m ∧ W (i + 1) m' H') ∧ ∀ x H', J.yld i H x H' → g x (wipe σ vs) H' fun σ2 H2 => wipe σ2 vs = wipe σ vs ∧ tt σ2 H2 fun b H3 =>
    if b = true then wi1 σ2 H3 fun J1 H4 => ∃ W1 : Nat → Nat → Hp → Prop, (∃ m, W1 0 m H4) ∧ ∀ j k H, W1 j k H →
      (J1.stop j H ∧ Nx H) ∨ (J1.go j H ∧ ∃ Nx1 : Hp → Prop, (∀ H', Nx1 H' → ∃ k', k' < k ∧ W1 (j + 1) k' H') ∧ ∀ x H', J1.yld j H x H' → g1 x (wipe σ2 vs1) H' fun σ3 H5 => wipe σ3 vs1 = wipe σ2 vs1 ∧ tt1 σ3 H5 fun b H6 =>
        if b = true then te σ3 H6 fun y H7 => ∃ acc, H7 D = some (.lst acc) ∧ acc.length < sizeLine ∧ Nx1 (upd H7 D (.lst (acc ++ [y]))) else Nx1 H6)
    else Nx H3)) : tLc2 wi g tt wi1 g1 tt1 te vs vs1 σ H Q := q
end
theorem pi_tupK {X : Cx} {K : PySem.W.Frag} {tg e : Expr} {t : TE} (h : PE X e t) (hk : X.K = K := by rfl) : PI X tg e (iTup K t) := by subst hk; exact pi_tup h
end My

set_option Elab.async false
set_option linter.all false
set_option maxRecDepth 100000
namespace My
open PySem PySem.Spec PyProof.Rows L2
/-! ### products of polynomials, power by power -/
def cmul : Terms → (Int → Int) → Int → Int
  | [], _, _ => 0
  | p :: ts, d, k => p.2 * d (k - p.1) + cmul ts d k
theorem cmul_extr : ∀ (ts : Terms) {d e : Int → Int} (k : Int), (∀ k, d k = e k) → cmul ts d k = cmul ts e k
  | [], _, _, _, _ => rfl
  | p :: ts, d, e, k, h => by rw [cmul, cmul, h, cmul_extr ts k h]
theorem cmul_zero : ∀ (ts : Terms) (k : Int), cmul ts (fun _ => 0) k = 0
  | [], _ => rfl
  | p :: ts, k => by rw [cmul, cmul_zero ts k]; simp
theorem cmul_add : ∀ (ts : Terms) (d e : Int → Int) (k : Int), cmul ts (fun k => d k + e k) k = cmul ts d k + cmul ts e k
  | [], _, _, _ => rfl
  | p :: ts, d, e, k => by rw [cmul, cmul, cmul, cmul_add ts d e k, Int.mul_add]; omega
theorem cmul_delta (q v : Int) : ∀ (ts : Terms) (k : Int), cmul ts (fun k => if q = k then v else 0) k = v * cof ts (k - q)
  | [], k => by rw [cmul, cof]; simp
  | p :: ts, k => by
    rw [cmul, cof, cmul_delta q v ts k, Int.mul_add]
    by_cases h : q = k - p.1
    · rw [if_pos h, if_pos (by omega), Int.mul_comm]
    · rw [if_neg h, if_neg (by omega)]; simp
theorem cmul_comm (ts : Terms) : ∀ (us : Terms) (k : Int), cmul ts (cof us) k = cmul us (cof ts) k
  | [], k => by
    rw [cmul, show (cof [] : Int → Int) = fun _ => 0 from funext fun k => by rw [cof]]
    exact cmul_zero ts k
  | q :: us, k => by
    rw [cmul, ← cmul_comm ts us k, ← cmul_delta q.1 q.2 ts k, ← cmul_add]
    exact cmul_extr ts k fun j => by rw [cof]
theorem cmul_ext {ts ts' us us' : Terms} (h : ∀ k, cof ts k = cof ts' k) (h' : ∀ k, cof us k = cof us' k) (k : Int) : cmul ts (cof us) k = cmul ts' (cof us') k := by
  rw [cmul_extr ts k h', cmul_comm, cmul_extr us' k h, cmul_comm]
open Classical in
/-- the product of two families of numbers (of finitely many that are not 0) -/
noncomputable def mulF (c d : Int → Int) (k : Int) : Int := if h : ∃ ts : Terms, ∀ k, cof ts k = c k then cmul h.choose d k else 0
theorem mulF_of {c d : Int → Int} {ts us : Terms} (h : ∀ k, cof ts k = c k) (h' : ∀ k, cof us k = d k) (k : Int) : mulF c d k = cmul ts (cof us) k := by
  have hx : ∃ ts : Terms, ∀ k, cof ts k = c k := ⟨ts, h⟩
  rw [mulF, dif_pos hx, ← cmul_extr hx.choose k h']
  exact cmul_ext (fun j => (hx.choose_spec j).trans (h j).symm) (fun _ => rfl) k
theorem mulF_ext {c d e f : Int → Int} (h : ∀ k, c k = e k) (h' : ∀ k, d k = f k) (k : Int) : mulF c d k = mulF e f k := by
  rw [show c = e from funext h, show d = f from funext h']
def rowT (p : Int × Int) (us : Terms) : Terms := us.map fun q => (p.1 + q.1, p.2 * q.2)
def prodT : Terms → Terms → Terms
  | [], _ => []
  | p :: ts, us => rowT p us ++ prodT ts us
theorem cof_row (p : Int × Int) : ∀ (us : Terms) (k : Int), cof (rowT p us) k = p.2 * cof us (k - p.1)
  | [], k => by rw [rowT, List.map_nil, cof, cof]; simp
  | q :: us, k => by
    have e : rowT p (q :: us) = (p.1 + q.1, p.2 * q.2) :: rowT p us := rfl
    rw [e, cof, cof, cof_row p us k, Int.mul_add]
    show (if p.1 + q.1 = k then p.2 * q.2 else 0) + _ = _
    by_cases h : q.1 = k - p.1
    · rw [if_pos h, if_pos (by omega)]
    · rw [if_neg h, if_neg (by omega)]; simp
theorem cof_prod : ∀ (ts us : Terms) (k : Int), cof (prodT ts us) k = cmul ts (cof us) k
  | [], _, _ => rfl
  | p :: ts, us, k => by rw [prodT, cof_app, cof_row, cof_prod ts us k, cmul]
theorem prodT_length : ∀ (ts us : Terms), (prodT ts us).length = ts.length * us.length
  | [], us => by rw [prodT]; simp
  | p :: ts, us => by rw [prodT, List.length_append, prodT_length ts us, List.length_cons, Nat.succ_mul, rowT, List.length_map]; omega
theorem prodT_take {p : Int × Int} : ∀ {ts : Terms} (us : Terms) (i : Nat), ts[i]? = some p → prodT (ts.take (i + 1)) us = prodT (ts.take i) us ++ rowT p us
  | [], us, i, h => by simp at h
  | t :: ts, us, 0, h => by
    simp at h; subst h
    simp [prodT]
  | t :: ts, us, i + 1, h => by
    rw [List.take_succ_cons, List.take_succ_cons, prodT, prodT, prodT_take us i (by simpa using h), List.append_assoc]
theorem rowT_take {p q : Int × Int} {us : Terms} {i : Nat} (h : us[i]? = some q) : rowT p (us.take (i + 1)) = rowT p (us.take i) ++ [(p.1 + q.1, p.2 * q.2)] := by
  rw [rowT, rowT, List.take_succ, h, List.map_append]; rfl
theorem cmul_shift (n : Int) (d : Int → Int) : ∀ (ts : Terms) (k : Int), cmul (shiftT n ts) d k = cmul ts d (k - n)
  | [], _ => rfl
  | p :: ts, k => by
    have e : shiftT n (p :: ts) = (p.1 + n, p.2) :: shiftT n ts := rfl
    rw [e, cmul, cmul, cmul_shift n d ts k]
    show p.2 * d (k - (p.1 + n)) + _ = _
    rw [show k - (p.1 + n) = k - n - p.1 by omega]
/-! ### how great the numbers are -/
theorem cof_le {M : Nat} : ∀ {ts : Terms} (k : Int), (∀ p ∈ ts, p.2.natAbs ≤ M) → (cof ts k).natAbs ≤ ts.length * M
  | [], _, _ => by rw [cof]; simp
  | p :: ts, k, h => by
    rw [cof, List.length_cons, Nat.succ_mul]
    have h1 := cof_le (ts := ts) k fun q hq => h q (List.mem_cons_of_mem _ hq)
    have h2 := h p List.mem_cons_self
    split <;> omega
theorem Canon.at : ∀ {ts : Terms} {p : Int × Int}, Canon ts → p ∈ ts → cof ts p.1 = p.2 := by
  intro ts
  induction ts with
  | nil => intro p _ hp; exact absurd hp (by simp)
  | cons q ts ih =>
    intro p hc hp
    rcases List.mem_cons.mp hp with rfl | hp
    · exact hc.head
    · rw [cof, ih hc.tail hp]
      have h1 := (List.pairwise_cons.mp hc.asc).1 p hp
      rw [if_neg (by omega), Int.zero_add]
theorem Canon.tight {ts l : Terms} (h : Canon ts) (e : ∀ k, cof ts k = cof l k) : ts.length ≤ l.length := by
  refine h.le_len fun p hp => ?_
  have h1 := h.at hp
  have h2 := h.nz p hp
  rw [e] at h1
  refine Decidable.byContradiction fun hn => h2 (h1.symm.trans (cof_none fun q hq hk => hn (List.mem_map.mpr ⟨q, hq, hk⟩)))
theorem Canon.num {ts : Terms} {B : Nat} (h : Canon ts) (b : ∀ k, (cof ts k).natAbs ≤ B) : ∀ p ∈ ts, p.2.natAbs ≤ B := fun p hp => by rw [← h.at hp]; exact b _
/-- small enough to be multiplied -/
def Sm (c : Int → Int) : Prop := ∀ k, (c k).natAbs < 2 ^ 100000
def spMul (C : Addr) (f : (Int → Int) → (Int → Int) → Int → Int) : Sp := fun vs H Q _ => ∃ a ts v c n, vs = [.ref a, v] ∧ PolyAt C H a ts ∧ IsVal C H v c n ∧ ts.length * n ≤ 90000 ∧ Sm (cof ts) ∧ Sm c ∧
  ∀ b us H', Same H H' → PolyAt C H' b us → (∀ k, cof us k = f (cof ts) c k) → us.length ≤ ts.length * n → Q (.ref b) H'
def spProduct (C : Addr) : Sp := fun vs H Q _ => ∃ a b ts us, vs = [.ref a, .ref b] ∧ PolyAt C H a ts ∧ PolyAt C H b us ∧ ts.length * us.length ≤ 90000 ∧ Sm (cof ts) ∧ Sm (cof us) ∧
  ∀ p ws H', Same H H' → PolyAt C H' p ws → (∀ k, cof ws k = mulF (cof ts) (cof us) k) → ws.length ≤ ts.length * us.length → Q (.ref p) H'
def spShift (C : Addr) : Sp := fun vs H Q _ => ∃ a ts n, vs = [.ref a, .int n] ∧ PolyAt C H a ts ∧ ts.length ≤ 90000 ∧ ∀ b us H', Same H H' → PolyAt C H' b us → (∀ k, cof us k = cof ts (k - n)) → us.length ≤ ts.length → Q (.ref b) H'
def spPNum : Sp := fun vs H Q _ => ∃ n, vs = [.int n] ∧ Q .non H
end My

set_option Elab.async false
set_option linter.all false
set_option maxRecDepth 100000
namespace My
open PySem PySem.Spec PyProof.Rows L2
section
variable {σ : L2.St} {H : Hp} {g : TG} {tt : TT} {te : TE} {vs : List Nat}
/-- [elt for k in d], d a dict of int keys under lock -/
theorem u_lcK {d : Addr} {od : Obj} {kvs : List (Key × V)} {ks : List Int} {Qd : Addr → Hp → Prop} (h : H d = some (.frz od (.dK kvs))) (hk : kvs.map (·.1) = ks.map Sum.inl) (I : Addr → Nat → List V → Hp → Prop) (h0 : ∀ D, H D = none → I D 0 [] (upd H D (.lst [])))
    (hl : ∀ D i acc H', H D = none → H' D = some (.lst acc) → I D i acc H' → H' d = some (.frz od (.dK kvs)))
    (hs : ∀ D i q acc H', H D = none → ks[i]? = some q → H' D = some (.lst acc) → I D i acc H' → g (.int q) (wipe σ vs) H' fun σ2 H2 => wipe σ2 vs = wipe σ vs ∧ tt σ2 H2 fun b H3 => if b = true then te σ2 H3 fun y H4 => LcPush D I i H4 y else LcSkip D I i H3)
    (hd : ∀ D acc H', H D = none → H' D = some (.lst acc) → I D ks.length acc H' → Qd D H') :
    ∃ d' o, V.ref d = .ref d' ∧ ((∃ kvs, H d' = some (.frz o (.dK kvs)) ∧ ∀ D, H D = none → ∃ W : Nat → Nat → Hp → Prop, (∃ m, W 0 m (upd H D (.lst []))) ∧ ∀ i m H, W i m H →
      ((Itk d' o kvs).stop i H ∧ Qd D H) ∨ ((Itk d' o kvs).go i H ∧ ∃ Nx : Hp → Prop, (∀ H', Nx H' → ∃ m', m' < m ∧ W (i + 1) m' H') ∧ ∀ x H', (Itk d' o kvs).yld i H x H' → g x (wipe σ vs) H' fun σ2 H2 => wipe σ2 vs = wipe σ vs ∧ tt σ2 H2 fun b H3 =>
        if b = true then te σ2 H3 fun y H4 => ∃ acc, H4 D = some (.lst acc) ∧ acc.length < sizeLine ∧ Nx (upd H4 D (.lst (acc ++ [y]))) else Nx H3)) ∨ ∃ kvs, H d' = some (.frz o (.dT kvs)) ∧ ∀ D, H D = none → ∃ W : Nat → Nat → Hp → Prop, (∃ m, W 0 m (upd H D (.lst []))) ∧ ∀ i m H, W i m H →
      ((Itkt d' o kvs).stop i H ∧ Qd D H) ∨ ((Itkt d' o kvs).go i H ∧ ∃ Nx : Hp → Prop, (∀ H', Nx H' → ∃ m', m' < m ∧ W (i + 1) m' H') ∧ ∀ x H', (Itkt d' o kvs).yld i H x H' → g x (wipe σ vs) H' fun σ2 H2 => wipe σ2 vs = wipe σ vs ∧ tt σ2 H2 fun b H3 =>
        if b = true then te σ2 H3 fun y H4 => ∃ acc, H4 D = some (.lst acc) ∧ acc.length < sizeLine ∧ Nx (upd H4 D (.lst (acc ++ [y]))) else Nx H3)) := by
  refine ⟨d, od, rfl, .inl ⟨kvs, h, fun D hD => ?_⟩⟩
  have hlen : kvs.length = ks.length := by
    have := congrArg List.length hk
    simpa using this
  refine ⟨fun i m H' => m = kvs.length - i ∧ i ≤ kvs.length ∧ ∃ acc, H' D = some (.lst acc) ∧ I D i acc H', ⟨kvs.length, by simp, Nat.zero_le _, [], upd_same, h0 D hD⟩, ?_⟩
  rintro i m H' ⟨rfl, hi, acc, ha, ir⟩
  by_cases hlt : i < kvs.length
  · refine .inr ⟨⟨hl _ _ _ _ hD ha ir, hlt⟩, fun H' => ∃ acc, H' D = some (.lst acc) ∧ I D (i + 1) acc H', fun H2 q => ⟨_, by omega, rfl, hlt, q⟩, fun x H2 hy => ?_⟩
    obtain ⟨rfl, k, v, e, rfl⟩ := hy
    have hks : ks[i]? = some (ks[i]'(by omega)) := List.getElem?_eq_getElem (by omega)
    generalize ks[i]'(by omega) = q at hks
    have ekk : k = .inl q := by
      have h1 : (kvs.map (·.1))[i]? = some k := by rw [List.getElem?_map, e]; rfl
      rw [hk, List.getElem?_map, hks] at h1
      exact (Option.some.inj h1).symm
    subst ekk
    exact hs D i q acc _ hD hks ha ir
  · have e : i = ks.length := by omega
    subst e
    exact .inl ⟨⟨hl _ _ _ _ hD ha ir, by omega⟩, hd D acc _ hD ha ir⟩
end
/-- a jar by its keys -/
theorem JarAt.list {H : Hp} {a : Addr} {n : Nat} {c : Int → Int} (h : JarAt H a n c) : ∃ (kvs : List (Key × V)) (ks : List Int), H a = some (.dK kvs) ∧ JarK kvs ∧ kvs.map (·.1) = ks.map Sum.inl ∧ ks.length ≤ n ∧ (∀ k, cfK kvs k = c k) ∧ ∀ k, cof (ks.map fun q => (q, c q)) k = c k := by
  obtain ⟨kvs, e, hk, hl, hc⟩ := h
  obtain ⟨ks, ek, nd, kz, kl⟩ := hk.keys
  refine ⟨kvs, ks, e, hk, ek, by omega, hc, fun k => ?_⟩
  have key : ∀ (ls : List Int), ls.Nodup → ∀ k, cof (ls.map fun q => (q, c q)) k = if k ∈ ls then c k else 0 := by
    intro ls
    induction ls with
    | nil => intro _ k; rfl
    | cons l ls ih =>
      intro nd k
      have nd' := List.nodup_cons.mp nd
      rw [List.map_cons, cof, ih nd'.2 k]
      by_cases e : l = k
      · subst e; rw [if_pos rfl, if_neg nd'.1, if_pos (by simp)]; omega
      · rw [if_neg e]
        by_cases m : k ∈ ls
        · rw [if_pos m, if_pos (by simp [m])]; omega
        · rw [if_neg m, if_neg (by simp only [List.mem_cons, m, or_false]; exact fun z => e z.symm)]; rfl
  rw [key ks nd k]
  by_cases m : k ∈ ks
  · rw [if_pos m]
  · rw [if_neg m, ← hc]; exact (kz k m).symm
/-- a Poly of a jar's numbers has no more terms than the jar -/
theorem Canon.jar {H : Hp} {a : Addr} {n : Nat} {c : Int → Int} {ts : Terms} (h : JarAt H a n c) (hc : Canon ts) (e : ∀ k, cof ts k = c k) : ts.length ≤ n := by
  obtain ⟨kvs, ks, _, _, _, hl, _, hf⟩ := h.list
  exact Nat.le_trans (hc.tight fun k => (e k).trans (hf k).symm) (by rw [List.length_map]; exact hl)
end My

set_option Elab.async false
set_option linter.all false
set_option maxRecDepth 100000
namespace My
open PySem PySem.Spec PyProof.Rows L2
section
variable {C : Addr} {H : Hp} {Q : VK} {E : XK} {a b : Addr} {ts us : Terms} {σ : L2.St} {m : Str}
/-- one * two -/
theorem u_mul2 (ha : PolyAt C H a ts) (hb : PolyAt C H b us) (hn : ts.length * us.length ≤ 90000) (s1 : Sm (cof ts)) (s2 : Sm (cof us))
    (q : ∀ p ws H', Same H H' → PolyAt C H' p ws → (∀ k, cof ws k = mulF (cof ts) (cof us) k) → ws.length ≤ ts.length * us.length → Q (.ref p) H') : rOwn2 C (spMul C mulF) (.ref a) (.ref b) H Q := by
  obtain ⟨dx, r, vs, g1, _⟩ := id ha
  obtain ⟨dy, r', vs', g2, _⟩ := id hb
  exact ⟨a, dx, _, b, dy, _, rfl, rfl, g1, g2, a, ts, .ref b, cof us, us.length, rfl, ha, .inl ⟨b, us, rfl, hb, fun _ => rfl, Nat.le_refl _⟩, hn, s1, s2, q⟩
/-- one << n -/
theorem u_shl {n : Int} (ha : PolyAt C H a ts) (hn : ts.length ≤ 90000)
    (q : ∀ p ws H', Same H H' → PolyAt C H' p ws → (∀ k, cof ws k = cof ts (k - n)) → ws.length ≤ ts.length → Q (.ref p) H') : rOwnI C (spShift C) (.ref a) (.int n) H Q := by
  obtain ⟨dx, r, vs, g1, _⟩ := id ha
  exact ⟨a, dx, _, n, rfl, rfl, g1, a, ts, n, rfl, ha, hn, q⟩
theorem unlock_same {H H' : Hp} {d : Addr} {od : Obj} {u : HO} (e : H d = some u) (s : Same (upd H d (.frz od u)) H') : Same H (upd H' d u) := fun x o h => by
  by_cases hx : x = d
  · subst hx
    rw [upd_same, ← h, e]
  · rw [upd_ne hx]
    exact s x o ((upd_ne hx).trans h)
theorem unlock_tk {H' : Hp} {d : Addr} {od : Obj} {u v : HO} (e : H' d = some (.frz od v)) : Tk H' (upd H' d u) := fun x xs h => by
  have hx : x ≠ d := fun z => by subst z; rw [e] at h; cases h
  exact (upd_ne hx).trans h
theorem JarAt.mono {H : Hp} {a : Addr} {n m : Nat} {c : Int → Int} (h : JarAt H a n c) (l : n ≤ m) : JarAt H a m c := let ⟨kvs, e, r1, r2, r3⟩ := h; ⟨kvs, e, r1, Nat.le_trans r2 l, r3⟩
end
end My

set_option Elab.async false
set_option linter.all false
set_option maxRecDepth 100000
namespace My
open PySem PySem.Spec PyProof.Rows L2
/-! ### powers -/
theorem cmul_app : ∀ (ts us : Terms) (d : Int → Int) (k : Int), cmul (ts ++ us) d k = cmul ts d k + cmul us d k
  | [], us, d, k => by rw [List.nil_append, cmul, Int.zero_add]
  | p :: ts, us, d, k => by rw [List.cons_append, cmul, cmul, cmul_app ts us d k, Int.add_assoc]
theorem JarAt.upd {H : Hp} {a b : Addr} {n : Nat} {c : Int → Int} {o : HO} (h : JarAt H a n c) (ne : a ≠ b) : JarAt (upd H b o) a n c := let ⟨kvs, e, r⟩ := h; ⟨kvs, (upd_ne ne).trans e, r⟩
def spTimes : Sp := fun vs H Q _ => ∃ (a b : Addr) (n m : Nat) (c d : Int → Int), vs = [.ref a, .ref b] ∧ JarAt H a n c ∧ JarAt H b m d ∧ n * m ≤ 90000 ∧ Sm c ∧ Sm d ∧ ∀ p H', H p = none → Same H H' → JarAt H' p (n * m) (mulF c d) → Q (.ref p) H'
def spMoved : Sp := fun vs H Q _ => ∃ (a : Addr) (n : Nat) (c : Int → Int) (s : Int), vs = [.ref a, .int s] ∧ JarAt H a n c ∧ n ≤ 90000 ∧ ∀ p H', H p = none → Same H H' → JarAt H' p n (fun k => c (k - s)) → Q (.ref p) H'
end My

set_option Elab.async false
set_option linter.all false
set_option maxRecDepth 100000
set_option maxHeartbeats 2000000
namespace My
open PySem PySem.Spec PyProof.Rows L2
/-! ### rows of plain commands with headings within bounds -/
namespace Prog
def wayIn (f : Int) : Int → Prog → Prop
  | _, .nil => True
  | h, .step _ _ r => wayIn f h r
  | h, .turn k r => (-f ≤ h + k ∧ h + k ≤ f) ∧ wayIn f (h + k) r
  | _, .rep _ _ _ => False
  | _, .mir _ _ => False
theorem wayIn_app {f : Int} : ∀ {p q : Prog} {h : Int}, wayIn f h p → wayIn f (h + p.head) q → wayIn f h (p.app q)
  | .nil, q, h, _, h2 => by rw [head, Int.add_zero] at h2; exact h2
  | .step w m r, q, h, h1, h2 => wayIn_app (p := r) h1 (by rw [head] at h2; exact h2)
  | .turn k r, q, h, h1, h2 => ⟨h1.1, wayIn_app (p := r) h1.2 (by rw [head, ← Int.add_assoc] at h2; exact h2)⟩
  | .rep k b r, q, h, h1, _ => h1.elim
  | .mir b r, q, h, h1, _ => h1.elim
end Prog
/-! ### numbers by powers, from 0 on -/
theorem cmul_neg {c d : Int → Int} (hc : ∀ k, k < 0 → c k = 0) (hd : ∀ k, k < 0 → d k = 0) : ∀ (ks : List Int) (k : Int), k < 0 → cmul (ks.map fun q => (q, c q)) d k = 0
  | [], k, _ => rfl
  | q :: ks, k, hk => by
    rw [List.map_cons, cmul, cmul_neg hc hd ks k hk, Int.add_zero]
    show c q * d (k - q) = 0
    by_cases hq : q < 0
    · rw [hc q hq, Int.zero_mul]
    · rw [hd _ (by omega), Int.mul_zero]
theorem cmul_at0 {c d : Int → Int} (hc : ∀ k, k < 0 → c k = 0) (hd : ∀ k, k < 0 → d k = 0) : ∀ (ks : List Int), ks.Nodup → cmul (ks.map fun q => (q, c q)) d 0 = if 0 ∈ ks then c 0 * d 0 else 0
  | [], _ => rfl
  | q :: ks, nd => by
    have nd := List.nodup_cons.mp nd
    rw [List.map_cons, cmul, cmul_at0 hc hd ks nd.2]
    show c q * d (0 - q) + _ = _
    by_cases hq : q = 0
    · subst hq
      rw [if_neg nd.1, if_pos (by simp), Int.add_zero]
      rfl
    · have h0 : c q * d (0 - q) = 0 := by
        by_cases h : q < 0
        · rw [hc q h, Int.zero_mul]
        · rw [hd _ (by omega), Int.mul_zero]
      rw [h0, Int.zero_add]
      by_cases h : 0 ∈ ks
      · rw [if_pos h, if_pos (by simp [h])]
      · rw [if_neg h, if_neg (by simp only [List.mem_cons, h, or_false]; exact fun z => hq z.symm)]
theorem le_sum (f : Int → Nat) : ∀ {l : List Int} {x : Int}, x ∈ l → f x ≤ (l.map f).sum
  | y :: l, x, h => by
    rcases List.mem_cons.mp h with rfl | h
    · simp
    · have := le_sum f h
      simp only [List.map_cons, List.sum_cons]
      omega
def enumT (ns : List Int) (i : Nat) : Terms := (List.range i).map fun (j : Nat) => ((j : Int), ns.getD j 0)
theorem enumT_succ (ns : List Int) (i : Nat) : enumT ns (i + 1) = enumT ns i ++ [((i : Int), ns.getD i 0)] := by
  unfold enumT
  rw [List.range_succ, List.map_append]
  rfl
theorem cof_enum (ns : List Int) : ∀ (i : Nat) (k : Int), cof (enumT ns i) k = if 0 ≤ k ∧ k < i then ns.getD k.toNat 0 else 0
  | 0, k => by rw [if_neg (by omega)]; rfl
  | i + 1, k => by
    rw [enumT_succ, cof_app, cof_enum ns i k, cof, cof, Int.add_zero]
    show _ + (if (i : Int) = k then ns.getD i 0 else 0) = _
    by_cases h : (i : Int) = k
    · subst h
      rw [if_neg (by omega), if_pos rfl, if_pos (by omega), Int.zero_add]
      rfl
    · rw [if_neg h, Int.add_zero]
      by_cases h2 : 0 ≤ k ∧ k < i
      · rw [if_pos h2, if_pos (by omega)]
      · rw [if_neg h2, if_neg (by omega)]
end My

set_option Elab.async false
set_option linter.all false
set_option maxRecDepth 100000
set_option maxHeartbeats 2000000
namespace My
open PySem PySem.Spec PyProof.Rows L2
/-! ### what the builder of a closed row keeps -/
def Ring (ns : List Int) : Prop := (1 ≤ ns.length ∧ ns.length ≤ 7) ∧ (∀ n ∈ ns, -1 ≤ n ∧ n ≤ 1) ∧ (ns.getD 0 0 = 1 ∨ ns.getD 0 0 = -1)
instance {ns : List Int} : Decidable (Ring ns) := by unfold Ring; infer_instance
def RingV (b : Addr) (H : Hp) (x : V) : Prop := ∃ (a : Addr) (ns : List Int), x = .ref a ∧ a ≠ b ∧ H a = some (.lst (ns.map V.int)) ∧ Ring ns
theorem RingV.but {b : Addr} {H H' : Hp} {x : V} (h : RingV b H x) (s : But b H H') : RingV b H' x := let ⟨a, ns, e, ne, ha, r⟩ := h; ⟨a, ns, e, ne, s _ _ ne ha, r⟩
theorem atI_get {xs : List V} {n : Int} (h0 : 0 ≤ n) (h1 : n < xs.length) : ∃ v, atI xs n = some v ∧ v ∈ xs := by
  have h2 : n.toNat < xs.length := by omega
  refine ⟨xs[n.toNat], ?_, List.getElem_mem h2⟩
  unfold atI ixN
  rw [if_pos h0, if_pos (by omega)]
  exact List.getElem?_eq_getElem h2
structure RowJar (H : Hp) (b j : Addr) (i : Nat) (S F : Int) (c : Int → Int) (ks : List Int) : Prop where
  jar : JarAt H j (7 ^ i) c
  nb : j ≠ b
  neg : ∀ k, k < 0 → c k = 0
  one : c 0 = 1 ∨ c 0 = -1
  key : ∃ kvs, H j = some (.dK kvs) ∧ kvs.map (·.1) = ks.map Sum.inl
  nd : ks.Nodup
  kz : ∀ k, ¬ k ∈ ks → c k = 0
  top : ∀ k ∈ ks, k ≤ F
  sum : (((ks.map fun q => (c q).natAbs).sum : Nat) : Int) ≤ S
section
variable {H H' : Hp} {b j : Addr} {i : Nat} {S F : Int} {c d : Int → Int} {ks : List Int}
theorem RowJar.but (h : RowJar H b j i S F c ks) (s : But b H H') : RowJar H' b j i S F c ks := { h with jar := h.jar.but h.nb s, key := let ⟨kvs, e, r⟩ := h.key; ⟨kvs, s _ _ h.nb e, r⟩ }
theorem RowJar.same (h : RowJar H b j i S F c ks) (s : Same H H') : RowJar H' b j i S F c ks := h.but (Same.but s b)
theorem RowJar.zero (h : RowJar H b j i S F c ks) : 0 ∈ ks := by
  refine Decidable.byContradiction fun hn => ?_
  have := h.kz 0 hn
  rcases h.one with e | e <;> omega
theorem RowJar.le (h : RowJar H b j i S F c ks) (k : Int) : ((c k).natAbs : Int) ≤ S := by
  by_cases m : k ∈ ks
  · have := le_sum (fun q => (c q).natAbs) m
    have := h.sum
    omega
  · rw [h.kz k m]
    have := h.sum
    show (0 : Int) ≤ S
    omega
theorem RowJar.mono (h : RowJar H b j i S F c ks) : RowJar H b j (i + 1) S F c ks := { h with jar := h.jar.mono (by rw [Nat.pow_succ]; omega) }
/-- the product with a ring, its sums within bounds -/
theorem RowJar.times {p : Addr} {ns : List Int} {kvs : List (Key × V)} {qs : List Int} (h : RowJar H b j i S F c ks) (r : Ring ns) (hp : JarAt H' p (7 ^ (i + 1)) (mulF c (cof (enumT ns ns.length)))) (np : p ≠ b)
    (e : H' p = some (.dK kvs)) (ek : kvs.map (·.1) = qs.map Sum.inl) (nd : qs.Nodup) (kz : ∀ k, ¬ k ∈ qs → mulF c (cof (enumT ns ns.length)) k = 0)
    (top : ∀ k ∈ qs, k ≤ F) (sum : (((qs.map fun q => (mulF c (cof (enumT ns ns.length)) q).natAbs).sum : Nat) : Int) ≤ S) (kf : ∀ k, cof (ks.map fun q => (q, c q)) k = c k) :
    RowJar H' b p (i + 1) S F (mulF c (cof (enumT ns ns.length))) qs := by
  have dneg : ∀ k, k < 0 → cof (enumT ns ns.length) k = 0 := fun k hk => by rw [cof_enum, if_neg (by omega)]
  have d0 : cof (enumT ns ns.length) 0 = 1 ∨ cof (enumT ns ns.length) 0 = -1 := by
    rw [cof_enum, if_pos ⟨Int.le_refl _, by have := r.1.1; omega⟩]
    exact r.2.2
  have hm : ∀ k, mulF c (cof (enumT ns ns.length)) k = cmul (ks.map fun q => (q, c q)) (cof (enumT ns ns.length)) k := fun k => mulF_of kf (fun _ => rfl) k
  refine ⟨hp, np, fun k hk => by rw [hm]; exact cmul_neg h.neg dneg ks k hk, ?_, ⟨kvs, e, ek⟩, nd, kz, top, sum⟩
  rw [hm, cmul_at0 h.neg dneg ks h.nd, if_pos h.zero]
  rcases h.one with e1 | e1 <;> rcases d0 with e2 | e2 <;> rw [e1, e2]
  · exact .inl rfl
  · exact .inr rfl
  · exact .inr rfl
  · exact .inl rfl
end
theorem cof_keys (c : Int → Int) : ∀ (ls : List Int), ls.Nodup → ∀ k, cof (ls.map fun q => (q, c q)) k = if k ∈ ls then c k else 0
  | [], _, k => rfl
  | l :: ls, nd, k => by
    have nd' := List.nodup_cons.mp nd
    rw [List.map_cons, cof, cof_keys c ls nd'.2 k]
    by_cases e : l = k
    · subst e; rw [if_pos rfl, if_neg nd'.1, if_pos (by simp)]; omega
    · rw [if_neg e]
      by_cases m : k ∈ ls
      · rw [if_pos m, if_pos (by simp [m])]; omega
      · rw [if_neg m, if_neg (by simp only [List.mem_cons, m, or_false]; exact fun z => e z.symm)]; rfl
theorem RowJar.kf {H : Hp} {b j : Addr} {i : Nat} {S F : Int} {c : Int → Int} {ks : List Int} (h : RowJar H b j i S F c ks) (k : Int) : cof (ks.map fun q => (q, c q)) k = c k := by
  rw [cof_keys c ks h.nd k]
  by_cases m : k ∈ ks
  · rw [if_pos m]
  · rw [if_neg m, h.kz k m]
theorem Ring.sm {ns : List Int} (r : Ring ns) (k : Int) : (cof (enumT ns ns.length) k).natAbs ≤ 1 := by
  rw [cof_enum]
  split
  · rename_i h
    have hl : k.toNat < ns.length := by omega
    rw [List.getD_eq_getElem?_getD, List.getElem?_eq_getElem hl]
    have := r.2.1 _ (List.getElem_mem hl)
    show (ns[k.toNat]).natAbs ≤ 1
    omega
  · decide
/-- one that is still to be done: heading, name, which way -/
def TodoV (F : Int) (H : Hp) (v : V) : Prop := ∃ (b : Addr) (d : Int) (nm : Str) (s : Int), v = .ref b ∧ H b = some (.tup [.int d, .str nm, .int s]) ∧ -F ≤ d ∧ d ≤ F ∧ IsName nm ∧ (s = 0 ∨ s = 1)
theorem TodoV.tk {F : Int} {H H' : Hp} {v : V} (h : TodoV F H v) (t : Tk H H') : TodoV F H' v := let ⟨b, d, nm, s, e, hb, r⟩ := h; ⟨b, d, nm, s, e, t _ _ hb, r⟩
structure TdAt (F : Int) (a : Addr) (H H' : Hp) (t : Addr) (vs : List V) : Prop where
  bu : But a H H'
  bg : Bag H' a
  at_ : H' t = some (.lst vs)
  fr : H t = none
  ne : t ≠ a
  all : ∀ v ∈ vs, TodoV F H' v
structure MdAt (F : Int) (a : Addr) (H H' : Hp) (m : Addr) (ms : List V) (p : Prog) (now : Int) (k : Nat) : Prop where
  at_ : H' m = some (.lst ms)
  fr : H m = none
  ne : m ≠ a
  pr : PrAt H' p ms
  wf : WfL 4000 1 (2 * F) 0 p
  wi : p.wayIn F 0
  hd : p.head = now
  n0 : -F ≤ now
  n1 : now ≤ F
  ln : p.len ≤ k
section
variable {F : Int} {a t m c : Addr} {H H' H2 : Hp} {vs ms : List V} {p q : Prog} {now : Int} {k : Nat} {o : HO}
theorem TdAt.new (h : TdAt F a H H' t vs) (n : H' c = none) : TdAt F a H (upd H' c o) t vs := ⟨h.bu.new n, h.bg.keep n, h_keep h.at_ n, h.fr, h.ne, fun v hv => (h.all v hv).tk ((Tk.refl _).new n)⟩
theorem TdAt.push (h : TdAt F a H H' t vs) {v : V} (hv : TodoV F H' v) : TdAt F a H (upd H' t (.lst (vs ++ [v]))) t (vs ++ [v]) := by
  have tk : Tk H' (upd H' t (.lst (vs ++ [v]))) := (Tk.refl _).lst h.at_
  refine ⟨h.bu.put h.fr, h.bg.upd h.ne.symm, upd_same, h.fr, h.ne, fun x hx => ?_⟩
  rcases List.mem_append.mp hx with hx | hx
  · exact (h.all x hx).tk tk
  · rw [List.mem_singleton.mp hx]
    exact hv.tk tk
theorem TdAt.other (h : TdAt F a H H' t vs) (hm : H' m = some (.lst ms)) (fm : H m = none) (nm : m ≠ a) (tm : t ≠ m) {xs : List V} : TdAt F a H (upd H' m (.lst xs)) t vs :=
  ⟨h.bu.put fm, h.bg.upd nm.symm, (upd_ne tm).trans h.at_, h.fr, h.ne, fun v hv => (h.all v hv).tk ((Tk.refl _).lst hm)⟩
theorem MdAt.new (h : MdAt F a H H' m ms p now k) (n : H' c = none) : MdAt F a H (upd H' c o) m ms p now k := { h with at_ := h_keep h.at_ n, pr := h.pr.tk ((Tk.refl _).new n) }
theorem MdAt.mono (h : MdAt F a H H' m ms p now k) : MdAt F a H H' m ms p now (k + 1) := { h with ln := Nat.le_succ_of_le h.ln }
theorem MdAt.push (h : MdAt F a H H' m ms p now k) {v : V} (hq : PrAt H' q [v]) (lq : q.len = 1) (wq : WfL 4000 1 (2 * F) 0 q) (iq : q.wayIn F now) {d : Int} (ed : now + q.head = d) (d0 : -F ≤ d) (d1 : d ≤ F) : MdAt F a H (upd H' m (.lst (ms ++ [v]))) m (ms ++ [v]) (p.app q) d (k + 1) := by
  have tk : Tk H' (upd H' m (.lst (ms ++ [v]))) := (Tk.refl _).lst h.at_
  refine ⟨upd_same, h.fr, h.ne, (h.pr.app hq).tk tk, h.wf.app wq, Prog.wayIn_app h.wi ?_, ?_, d0, d1, ?_⟩
  · rw [Int.zero_add, h.hd]; exact iq
  · rw [Prog.head_app, h.hd, ed]
  · rw [Prog.len_app, lq]
    exact Nat.succ_le_succ h.ln
end
end My

set_option Elab.async false
set_option linter.all false
set_option maxRecDepth 100000
set_option maxHeartbeats 2000000
namespace My
open PySem PySem.Spec PyProof.Rows L2
/-! ### short programs: headings within bounds on the whole way -/
namespace Prog
theorem wayIn_app_iff {f : Int} : ∀ {p q : Prog} {h : Int}, wayIn f h (p.app q) ↔ wayIn f h p ∧ wayIn f (h + p.head) q
  | .nil, q, h => by rw [head, Int.add_zero]; exact ⟨fun k => ⟨trivial, k⟩, fun k => k.2⟩
  | .step w m r, q, h => by rw [head]; exact wayIn_app_iff (p := r)
  | .turn k r, q, h => by
    have := wayIn_app_iff (f := f) (p := r) (q := q) (h := h + k)
    rw [head, ← Int.add_assoc]
    exact ⟨fun x => ⟨⟨x.1, (this.mp x.2).1⟩, (this.mp x.2).2⟩, fun x => ⟨x.1.1, this.mpr ⟨x.1.2, x.2⟩⟩⟩
  | .rep k b r, q, h => ⟨fun x => x.elim, fun x => x.1.elim⟩
  | .mir b r, q, h => ⟨fun x => x.elim, fun x => x.1.elim⟩
theorem head_times (p : Prog) : ∀ n : Nat, (times n p).head = n * p.head
  | 0 => by rw [times, head]; simp
  | n + 1 => by
    rw [times, head_app, head_times p n, Int.natCast_succ, Int.add_mul, Int.one_mul]
    omega
theorem head_unroll {L : Nat} {C T : Int} {d : Nat} {p : Prog} {s : Int} (hs : s = 1 ∨ s = -1) (h : WfL L C T d p) : (unroll s p).head = s * p.head := by
  rw [head_flat (wf_unroll hs h), turns_unroll s h]
/-- turned about: each heading with the other sign -/
inductive Neg : Prog → Prog → Prop
  | nil : Neg .nil .nil
  | step {w n : Str} {p q : Prog} : Neg p q → Neg (.step w n p) (.step w n q)
  | turn {k : Int} {p q : Prog} : Neg p q → Neg (.turn k p) (.turn (-k) q)
theorem Neg.app {p q : Prog} (h : Neg p q) {r s : Prog} (h' : Neg r s) : Neg (p.app r) (q.app s) := by
  induction h with
  | nil => exact h'
  | step _ ih => exact .step ih
  | turn _ ih => exact .turn ih
theorem Neg.times {p q : Prog} (h : Neg p q) : ∀ n, Neg (Prog.times n p) (Prog.times n q)
  | 0 => .nil
  | n + 1 => h.app (h.times n)
theorem neg_unroll : ∀ (p : Prog) (s : Int), Neg (unroll s p) (unroll (-s) p)
  | .nil, _ => .nil
  | .step w n r, s => .step (neg_unroll r s)
  | .turn k r, s => by
    rw [unroll, unroll, Int.neg_mul]
    exact .turn (neg_unroll r s)
  | .rep k b r, s => ((neg_unroll b s).times _).app (neg_unroll r s)
  | .mir b r, s => (neg_unroll b (-s)).app (neg_unroll r s)
theorem Neg.way {f : Int} {p q : Prog} (h : Neg p q) : ∀ {k : Int}, wayIn f k p → wayIn f (-k) q := by
  induction h with
  | nil => exact fun _ => trivial
  | step _ ih => exact fun x => ih x
  | turn _ ih =>
    intro k x
    have := ih x.2
    rw [Int.neg_add] at this
    exact ⟨by have := x.1; omega, this⟩
theorem way_neg {f : Int} {p : Prog} {s k : Int} (h : wayIn f k (unroll s p)) : wayIn f (-k) (unroll (-s) p) := (neg_unroll p s).way h
theorem way_times {f : Int} {b : Prog} {h : Int} (w : wayIn f h b) (z : b.head = 0) : ∀ n, wayIn f h (times n b)
  | 0 => trivial
  | n + 1 => wayIn_app_iff.mpr ⟨w, by rw [z, Int.add_zero]; exact way_times w z n⟩
/-- steps alone -/
def onlySteps : Prog → Prop
  | .nil => True
  | .step _ _ r => onlySteps r
  | .turn _ _ => False
  | .rep _ _ _ => False
  | .mir _ _ => False
theorem only_way {f : Int} : ∀ {p : Prog} {h : Int}, onlySteps p → wayIn f h p
  | .nil, _, _ => trivial
  | .step w n r, h, x => only_way (p := r) x
theorem only_head : ∀ {p : Prog}, onlySteps p → p.head = 0
  | .nil, _ => by rw [head]
  | .step w n r, x => by rw [head]; exact only_head (p := r) x
theorem only_unroll : ∀ {p : Prog} (s : Int), onlySteps p → unroll s p = p
  | .nil, _, _ => rfl
  | .step w n r, s, x => by rw [unroll, only_unroll (p := r) s x]
end Prog
end My
namespace My
open PySem PySem.Spec PyProof.Rows L2
end My

set_option Elab.async false
set_option linter.all false
set_option maxRecDepth 100000
set_option maxHeartbeats 2000000
namespace My
open PySem PySem.Spec PyProof.Rows L2
/-! ### rows of things -/
def Each {α : Type} (R : V → α → Prop) (vs : List V) (xs : List α) : Prop := vs.length = xs.length ∧ ∀ (i : Nat) (v : V) (x : α), vs[i]? = some v → xs[i]? = some x → R v x
section
variable {α : Type} {R S : V → α → Prop} {vs : List V} {xs : List α}
theorem Each.nil : Each R [] [] := ⟨rfl, fun i v x h => by simp at h⟩
theorem Each.imp (h : Each R vs xs) (k : ∀ v x, x ∈ xs → R v x → S v x) : Each S vs xs := ⟨h.1, fun i v x hv hx => k v x (List.mem_of_getElem? hx) (h.2 i v x hv hx)⟩
theorem Each.app {ws : List V} {ys : List α} (h : Each R vs xs) (k : Each R ws ys) : Each R (vs ++ ws) (xs ++ ys) := by
  refine ⟨by rw [List.length_append, List.length_append, h.1, k.1], fun i v x hv hx => ?_⟩
  by_cases l : i < vs.length
  · rw [List.getElem?_append_left l] at hv
    rw [List.getElem?_append_left (by rw [← h.1]; exact l)] at hx
    exact h.2 i v x hv hx
  · rw [List.getElem?_append_right (by omega)] at hv
    rw [List.getElem?_append_right (by rw [← h.1]; omega), ← h.1] at hx
    exact k.2 _ v x hv hx
theorem Each.one {v : V} {x : α} (k : R v x) : Each R [v] [x] := ⟨rfl, fun i v' x' hv hx => by
  cases i with
  | zero => cases hv; cases hx; exact k
  | succ n => simp at hv⟩
theorem Each.cons {v : V} {x : α} (k : R v x) (h : Each R vs xs) : Each R (v :: vs) (x :: xs) := (Each.one k).app h
theorem Each.at (h : Each R vs xs) {i : Nat} {v : V} (hv : vs[i]? = some v) : ∃ x, xs[i]? = some x ∧ R v x := by
  have hi := (List.getElem?_eq_some_iff.mp hv).1
  rw [h.1] at hi
  exact ⟨xs[i], List.getElem?_eq_getElem hi, h.2 i v _ hv (List.getElem?_eq_getElem hi)⟩
theorem Each.get (h : Each R vs xs) {i : Nat} {x : α} (hx : xs[i]? = some x) : ∃ v, vs[i]? = some v ∧ R v x := by
  have hi := (List.getElem?_eq_some_iff.mp hx).1
  rw [← h.1] at hi
  exact ⟨vs[i], List.getElem?_eq_getElem hi, h.2 i _ x (List.getElem?_eq_getElem hi) hx⟩
theorem Each.reverse (h : Each R vs xs) : Each R vs.reverse xs.reverse := by
  refine ⟨by simpa using h.1, fun i v x hv hx => ?_⟩
  have l : i < vs.length := by have := (List.getElem?_eq_some_iff.mp hv).1; simpa using this
  rw [List.getElem?_reverse l] at hv
  rw [List.getElem?_reverse (by rw [← h.1]; exact l), ← h.1] at hx
  exact h.2 _ v x hv hx
theorem Each.drop (h : Each R vs xs) (n : Nat) : Each R (vs.drop n) (xs.drop n) := ⟨by rw [List.length_drop, List.length_drop, h.1], fun i v x hv hx => by
  rw [List.getElem?_drop] at hv hx
  exact h.2 _ v x hv hx⟩
theorem Each.take (h : Each R vs xs) (n : Nat) : Each R (vs.take n) (xs.take n) := ⟨by rw [List.length_take, List.length_take, h.1], fun i v x hv hx => by
  rw [List.getElem?_take] at hv hx
  split at hv
  · rw [if_pos (by assumption)] at hx
    exact h.2 i v x hv hx
  · cases hv⟩
end
/-! ### what is no dict stays -/
def Std (H H' : Hp) : Prop := ∀ c o, (∀ kvs, o ≠ .dK kvs) → H c = some o → H' c = some o
theorem Std.refl (H : Hp) : Std H H := fun _ _ _ h => h
theorem Std.trans {H H1 H2 : Hp} (h : Std H H1) (k : Std H1 H2) : Std H H2 := fun c o n e => k c o n (h c o n e)
theorem Std.of {H H' : Hp} (h : Same H H') : Std H H' := fun c o _ e => h c o e
theorem Std.tk {H H' : Hp} (h : Std H H') : Tk H H' := fun c xs e => h c _ (by intro _ z; cases z) e
theorem Std.lst {H H' : Hp} {a : Addr} {xs : List V} (h : Std H H') (e : H a = some (.lst xs)) : H' a = some (.lst xs) := h a _ (by intro _ z; cases z) e
theorem Std.stay {H H' : Hp} (h : Std H H') : Stay H H' := fun c o _ n e => h c o n e
theorem Std.dk {H H' : Hp} {p : Addr} {kvs : List (Key × V)} {o : HO} (h : Std H H') (n : H' p = some (.dK kvs)) : Std H (upd H' p o) := fun c u x e => by
  have q := h c u x e
  refine (upd_ne ?_).trans q
  rintro rfl
  rw [n] at q
  cases q
  exact x _ rfl
theorem Std.but {H H1 H2 : Hp} {p : Addr} {kvs : List (Key × V)} (h : Std H H1) (n : H1 p = some (.dK kvs)) (b : But p H1 H2) : Std H H2 := fun c u x e => by
  have q := h c u x e
  refine b c u ?_ q
  rintro rfl
  rw [n] at q
  cases q
  exact x _ rfl
theorem Std.new {H H' : Hp} {p : Addr} {o : HO} (h : Std H H') (n : H' p = none) : Std H (upd H' p o) := fun c u x e => h_keep (h c u x e) n
/-- a jar of names under a change of a list -/
theorem Spot.lst {H0 H : Hp} {s l : Addr} {N : Nat} {c : Str → Int → Int} {ws : List (Str × Addr)} {xs : List V} {o : HO} (h : Spot H0 H s N c ws) (n : H0 l = none) (e : H l = some (.lst xs)) : Spot H0 (upd H l o) s N c ws :=
  ⟨(upd_ne (ne_of h.at_ e (by intro z; cases z))).trans h.at_, h.nd, h.ndA, h.name, h.new, h.news, fun x hx => by
    obtain ⟨kvs, e1, r⟩ := h.jars x hx
    exact ⟨kvs, (upd_ne (ne_of e1 e (by intro z; cases z))).trans e1, r⟩, h.none_, Same.put h.same n⟩
/-! ### the steps of a flat program -/
abbrev Stp := Str × Str × Int
namespace Prog
end Prog
/-- a program held at a value -/
def PrC (H : Hp) (v : V) (p : Prog) : Prop := ∃ q, v = .ref q ∧ PrIs H q p
theorem PrC.tk {H H' : Hp} {v : V} {p : Prog} (h : PrC H v p) (t : Tk H H') : PrC H' v p := let ⟨q, e, k⟩ := h; ⟨q, e, k.tk t⟩
/-- what steps add up to: the number of the name n at the power k -/
def stC : List Stp → Str → Int → Int
  | [], _, _ => 0
  | s :: ss, n, k => (if s.2.1 = n ∧ s.2.2 = k then stepSign s.1 else 0) + stC ss n k
def StpC (H : Hp) (v : V) (s : Stp) : Prop := ∃ b, v = .ref b ∧ H b = some (.tup [.str s.1, .str s.2.1, .int s.2.2])
theorem StpC.tk {H H' : Hp} {v : V} {s : Stp} (h : StpC H v s) (t : Tk H H') : StpC H' v s := let ⟨b, e, g⟩ := h; ⟨b, e, t _ _ g⟩
/-! ### places of the program -/
def PlC (C : Addr) (H : Hp) (v : V) (e : Str × Terms) : Prop := ∃ b l, v = .ref b ∧ H b = some (.tup [.str e.1, .ref l]) ∧ PolyAt C H l e.2
theorem PlC.stay {C : Addr} {H H' : Hp} {v : V} {e : Str × Terms} (h : PlC C H v e) (s : Stay H H') : PlC C H' v e := let ⟨b, l, e1, e2, e3⟩ := h; ⟨b, l, e1, s.tk _ _ e2, e3.stay s⟩
def PlaceP (C : Addr) (H : Hp) (l : Addr) (pl : Pl) : Prop := ∃ vs, H l = some (.lst vs) ∧ Each (PlC C H) vs pl
theorem PlaceP.std {C : Addr} {H H' : Hp} {l : Addr} {pl : Pl} (h : PlaceP C H l pl) (s : Std H H') : PlaceP C H' l pl := let ⟨vs, e, k⟩ := h; ⟨vs, s.lst e, k.imp fun v x _ r => r.stay s.stay⟩
theorem PlaceP.same {C : Addr} {H H' : Hp} {l : Addr} {pl : Pl} (h : PlaceP C H l pl) (s : Same H H') : PlaceP C H' l pl := h.std (.of s)
/-- under a change of another list -/
theorem PlaceP.lst {C : Addr} {H : Hp} {l m : Addr} {pl : Pl} {xs : List V} {o : HO} (h : PlaceP C H l pl) (n : l ≠ m) (e : H m = some (.lst xs)) : PlaceP C (upd H m o) l pl := let ⟨vs, e1, k⟩ := h; ⟨vs, (upd_ne n).trans e1, k.imp fun v x _ r => r.stay ((Stay.refl H).lst e)⟩
theorem PlaceL.upd {F : Addr → Prop} {H : Hp} {m : Addr} {xs : List V} {o : HO} (hF : ∀ x, F x → x ≠ m) (e : H m = some (.lst xs)) : ∀ {vs : List V} {pl : Pl}, PlaceL F H vs pl → PlaceL F (upd H m o) vs pl
  | [], _, h => h
  | _ :: _, _, ⟨b, l, e0, us, e1, e2, e3, e4, ⟨ws, e5, e7⟩, e6⟩ => ⟨b, l, e0, us, e1, e2, (Tk.refl H).lst e _ _ e3, e4, ⟨ws, (upd_ne (hF _ e4)).trans e5, e7.tk ((Tk.refl H).lst e)⟩, PlaceL.upd hF e e6⟩
theorem PlaceL.std {F : Addr → Prop} {H H' : Hp} (t : Std H H') : ∀ {vs : List V} {pl : Pl}, PlaceL F H vs pl → PlaceL F H' vs pl
  | [], _, h => h
  | _ :: _, _, ⟨b, l, e0, us, e1, e2, e3, e4, ⟨ws, e5, e7⟩, e6⟩ => ⟨b, l, e0, us, e1, e2, t.tk _ _ e3, e4, ⟨ws, t.lst e5, e7.tk t.tk⟩, PlaceL.std t e6⟩
theorem PlaceL.mono {F G : Addr → Prop} (hF : ∀ x, F x → G x) {H : Hp} : ∀ {vs : List V} {pl : Pl}, PlaceL F H vs pl → PlaceL G H vs pl
  | [], _, h => h
  | _ :: _, _, ⟨b, l, e0, us, e1, e2, e3, e4, e5, e6⟩ => ⟨b, l, e0, us, e1, e2, e3, hF _ e4, e5, PlaceL.mono hF e6⟩
/-- a place of the program held in a list at l, all new since H -/
def PlR (C : Addr) (H H' : Hp) (l : Addr) (v : V) (ss : List Stp) : Prop := ∃ a pl, v = .ref a ∧ H a = none ∧ a ≠ l ∧ PlaceP C H' a pl ∧ IsPlace pl (stC ss) ∧ (∀ e ∈ pl, e.2.length ≤ 5000) ∧ pl.length < 64
theorem PlR.std {C : Addr} {H H' H2 : Hp} {l : Addr} {v : V} {ss : List Stp} (h : PlR C H H' l v ss) (s : Std H' H2) : PlR C H H2 l v ss := let ⟨a, pl, e, n, ne, hp, r⟩ := h; ⟨a, pl, e, n, ne, hp.std s, r⟩
theorem PlR.lst {C : Addr} {H H' : Hp} {l : Addr} {v : V} {ss : List Stp} {xs : List V} {o : HO} (h : PlR C H H' l v ss) (e : H' l = some (.lst xs)) : PlR C H (L2.upd H' l o) l v ss := let ⟨a, pl, e0, n, ne, hp, r⟩ := h; ⟨a, pl, e0, n, ne, hp.lst ne e, r⟩
/-- a place of the law's own in a list at l, beside the list d -/
def TrR (H' : Hp) (l d : Addr) (v : V) (ss : List Stp) : Prop := ∃ a vs pl, v = .ref a ∧ a ≠ l ∧ a ≠ d ∧ H' a = some (.lst vs) ∧ PlaceL (fun x => x ≠ l ∧ x ≠ d) H' vs pl ∧ IsPlace pl (stC ss)
theorem TrR.std {H' H2 : Hp} {l d : Addr} {v : V} {ss : List Stp} (h : TrR H' l d v ss) (s : Std H' H2) : TrR H2 l d v ss := let ⟨a, vs, pl, e, n, ne, ha, hp, r⟩ := h; ⟨a, vs, pl, e, n, ne, s.lst ha, hp.std s, r⟩
theorem TrR.lst {H' : Hp} {l d m : Addr} {v : V} {ss : List Stp} {xs : List V} {o : HO} (h : TrR H' l d v ss) (hm : m = l ∨ m = d) (e : H' m = some (.lst xs)) : TrR (L2.upd H' m o) l d v ss := by
  obtain ⟨a, vs, pl, e0, n, ne, ha, hp, r⟩ := h
  have am : a ≠ m := by rcases hm with rfl | rfl <;> assumption
  refine ⟨a, vs, pl, e0, n, ne, (upd_ne am).trans ha, hp.upd (fun x hx => ?_) e, r⟩
  rcases hm with rfl | rfl
  · exact hx.1
  · exact hx.2
theorem TrR.place {H' : Hp} {l d : Addr} {v : V} {ss : List Stp} (h : TrR H' l d v ss) : ∃ a pl, v = .ref a ∧ PlaceAt H' a pl ∧ IsPlace pl (stC ss) := let ⟨a, vs, pl, e, _, _, ha, hp, r⟩ := h; ⟨a, pl, e, ⟨vs, ha, hp.all⟩, r⟩
theorem IsPlace.nil : IsPlace [] (stC []) := ⟨by simp, by simp, by simp, fun _ _ _ => rfl⟩
def DrC (H : Hp) (v : V) (e : Str × Nat) : Prop := ∃ b, v = .ref b ∧ H b = some (.tup [.str e.1, .int e.2])
theorem DrC.tk {H H' : Hp} {v : V} {e : Str × Nat} (h : DrC H v e) (t : Tk H H') : DrC H' v e := let ⟨b, e1, e2⟩ := h; ⟨b, e1, t _ _ e2⟩
theorem PlaceP.but {C : Addr} {H H' : Hp} {l m : Addr} {pl : Pl} {xs : List V} (h : PlaceP C H l pl) (n : l ≠ m) (e : H m = some (.lst xs)) (b : But m H H') : PlaceP C H' l pl := let ⟨vs, e1, k⟩ := h; ⟨vs, b _ _ n e1, k.imp fun v x _ r => r.stay (Stay.but b e)⟩
/-- a stroke of the program in a list at l, all new since H -/
def StR (C : Addr) (ss : List Stp) (H H' : Hp) (l : Addr) (v : V) (e : Str × Nat) : Prop := ∃ b a1 a2 pl1 pl2, v = .ref b ∧ H' b = some (.tup [.str e.1, .ref a1, .ref a2]) ∧ (H a1 = none ∧ H a2 = none ∧ a1 ≠ l ∧ a2 ≠ l) ∧
  (PlaceP C H' a1 pl1 ∧ IsPlace pl1 (stC (ss.take e.2)) ∧ (∀ e ∈ pl1, e.2.length ≤ 5000) ∧ pl1.length < 64) ∧ PlaceP C H' a2 pl2 ∧ IsPlace pl2 (stC (ss.take (e.2 + 1))) ∧ (∀ e ∈ pl2, e.2.length ≤ 5000) ∧ pl2.length < 64
theorem StR.std {C : Addr} {ss : List Stp} {H H' H2 : Hp} {l : Addr} {v : V} {e : Str × Nat} (h : StR C ss H H' l v e) (s : Std H' H2) : StR C ss H H2 l v e := let ⟨b, a1, a2, pl1, pl2, e1, e2, n, ⟨h1, r1⟩, h2, r2⟩ := h; ⟨b, a1, a2, pl1, pl2, e1, s.tk _ _ e2, n, ⟨h1.std s, r1⟩, h2.std s, r2⟩
theorem StR.lst {C : Addr} {ss : List Stp} {H H' : Hp} {l : Addr} {v : V} {e : Str × Nat} {xs : List V} {o : HO} (h : StR C ss H H' l v e) (e0 : H' l = some (.lst xs)) : StR C ss H (L2.upd H' l o) l v e := let ⟨b, a1, a2, pl1, pl2, e1, e2, n, ⟨h1, r1⟩, h2, r2⟩ := h; ⟨b, a1, a2, pl1, pl2, e1, (Tk.refl H').lst e0 _ _ e2, n, ⟨h1.lst n.2.2.1 e0, r1⟩, h2.lst n.2.2.2 e0, r2⟩
end My

set_option Elab.async false
set_option linter.all false
set_option maxRecDepth 100000
set_option maxHeartbeats 2000000
namespace My
open PySem PySem.Spec PyProof.Rows L2
namespace Prog
end Prog
/-! ### places as lists of names and terms -/
/-- an entry (name, list of terms), its list with F -/
def PlF (F : Addr → Prop) (H : Hp) (v : V) (e : Str × Terms) : Prop := ∃ b l, v = .ref b ∧ H b = some (.tup [.str e.1, .ref l]) ∧ F l ∧ TermsAt H l e.2
theorem PlF.same {F : Addr → Prop} {H H' : Hp} {v : V} {e : Str × Terms} (h : PlF F H v e) (s : Same H H') : PlF F H' v e := let ⟨b, l, e1, e2, e3, e4⟩ := h; ⟨b, l, e1, s _ _ e2, e3, e4.same s⟩
theorem PlF.upd {F : Addr → Prop} {H : Hp} {m : Addr} {xs : List V} {o : HO} {v : V} {e : Str × Terms} (h : PlF F H v e) (hF : ∀ x, F x → x ≠ m) (e0 : H m = some (.lst xs)) : PlF F (L2.upd H m o) v e :=
  let ⟨b, l, e1, e2, e3, ⟨ws, e4, e5⟩⟩ := h; ⟨b, l, e1, (Tk.refl H).lst e0 _ _ e2, e3, ⟨ws, (upd_ne (hF _ e3)).trans e4, e5.tk ((Tk.refl H).lst e0)⟩⟩
/-- a place whose lists of terms are new since H -/
def PlaceN (H H' : Hp) (l : Addr) (pl : Pl) : Prop := ∃ vs, H' l = some (.lst vs) ∧ PlaceL (fun x => H x = none) H' vs pl
theorem PlaceN.at {H H' : Hp} {l : Addr} {pl : Pl} (h : PlaceN H H' l pl) : PlaceAt H' l pl := let ⟨vs, e, k⟩ := h; ⟨vs, e, k.all⟩
theorem PlaceN.same {H H' H2 : Hp} {l : Addr} {pl : Pl} (h : PlaceN H H' l pl) (s : Same H' H2) : PlaceN H H2 l pl := let ⟨vs, e, k⟩ := h; ⟨vs, s _ _ e, k.same s⟩
theorem PlaceN.back {H0 H H' : Hp} {l : Addr} {pl : Pl} (h : PlaceN H H' l pl) (s : Same H0 H) : PlaceN H0 H' l pl := let ⟨vs, e, k⟩ := h; ⟨vs, e, k.mono fun x hx => free_same s hx⟩
theorem PlaceL.butl {F : Addr → Prop} {H H' : Hp} {a : Addr} {xs : List V} (hF : ∀ x, F x → x ≠ a) (e : H a = some (.lst xs)) (b : But a H H') : ∀ {vs : List V} {pl : Pl}, PlaceL F H vs pl → PlaceL F H' vs pl
  | [], _, h => h
  | _ :: _, _, ⟨c, l, e0, us, e1, e2, e3, e4, ⟨ws, e5, e7⟩, e6⟩ => by
    have tk : Tk H H' := fun c xs e' => b _ _ (ne_of e' e (by intro z; cases z)) e'
    exact ⟨c, l, e0, us, e1, e2, tk _ _ e3, e4, ⟨ws, b _ _ (hF _ e4) e5, e7.tk tk⟩, PlaceL.butl hF e b e6⟩
/-- beside a drawing -/
theorem PlaceN.bag {H H' H2 : Hp} {l a : Addr} {pl : Pl} (h : PlaceN H H' l pl) (nl : H l = none) (ba : Bag H a) (bb : Bag H' a) (b : But a H' H2) : PlaceN H H2 l pl := by
  obtain ⟨vs, e, k⟩ := h
  obtain ⟨x, y, z, hb, _⟩ := bb
  exact ⟨vs, b _ _ (ba.ne nl) e, k.butl (fun x hx => ba.ne hx) hb b⟩
theorem IsPlace.congr {pl : Pl} {c d : Str → Int → Int} (h : IsPlace pl c) (e : ∀ n k, c n k = d n k) : IsPlace pl d := by
  have : c = d := funext fun n => funext fun k => e n k
  rw [← this]; exact h
/-! ### a dict of lists of terms by names -/
def setW (ws : List (Str × Addr)) (n : Str) (a : Addr) : List (Str × Addr) := if n ∈ ws.map (·.1) then ws.map (fun e => if e.1 = n then (n, a) else e) else ws ++ [(n, a)]
theorem setW_put (ws : List (Str × Addr)) (n : Str) (a : Addr) : putK (spotKvs ws) (.inr n) (.ref a) = spotKvs (setW ws n a) := by
  unfold putK setW
  by_cases h : n ∈ ws.map (·.1)
  · have h2 : ((spotKvs ws).any fun kv => decide (kv.1 = Sum.inr n)) = true := by
      obtain ⟨e, he, e2⟩ := List.mem_map.mp h
      exact List.any_eq_true.mpr ⟨(Sum.inr e.1, V.ref e.2), List.mem_map.mpr ⟨e, he, rfl⟩, decide_eq_true (congrArg Sum.inr e2)⟩
    rw [if_pos h2, if_pos h]
    unfold spotKvs
    rw [List.map_map, List.map_map]
    refine List.map_congr_left fun e _ => ?_
    show (if (Sum.inr e.1 : Key) = Sum.inr n then ((Sum.inr e.1 : Key), V.ref a) else (Sum.inr e.1, V.ref e.2)) = ((Sum.inr (if e.1 = n then (n, a) else e).1 : Key), V.ref (if e.1 = n then (n, a) else e).2)
    by_cases q : e.1 = n
    · rw [if_pos (congrArg Sum.inr q), if_pos q, q]
    · rw [if_neg (fun x => q (Sum.inr.inj x)), if_neg q]
  · have h2 : ¬ ((spotKvs ws).any fun kv => decide (kv.1 = Sum.inr n)) = true := by
      intro q
      obtain ⟨p, hp, e⟩ := List.any_eq_true.mp q
      obtain ⟨x, hx, rfl⟩ := List.mem_map.mp hp
      exact h (List.mem_map.mpr ⟨x, hx, Sum.inr.inj (of_decide_eq_true e)⟩)
    rw [if_neg h2, if_neg h]
    unfold spotKvs
    rw [List.map_append]
    rfl
theorem setW_names (ws : List (Str × Addr)) (n : Str) (a : Addr) : (setW ws n a).map (·.1) = if n ∈ ws.map (·.1) then ws.map (·.1) else ws.map (·.1) ++ [n] := by
  unfold setW
  split
  · rw [List.map_map]
    refine List.map_congr_left fun e _ => ?_
    show (if e.1 = n then (n, a) else e).1 = e.1
    by_cases q : e.1 = n
    · rw [if_pos q, q]
    · rw [if_neg q]
  · rw [List.map_append]; rfl
theorem setW_mem {ws : List (Str × Addr)} {n : Str} {a : Addr} {e : Str × Addr} (h : e ∈ setW ws n a) : e = (n, a) ∨ (e ∈ ws ∧ e.1 ≠ n) := by
  unfold setW at h
  split at h
  · obtain ⟨x, hx, e2⟩ := List.mem_map.mp h
    by_cases q : x.1 = n
    · rw [if_pos q] at e2; exact .inl e2.symm
    · rw [if_neg q] at e2; subst e2; exact .inr ⟨hx, q⟩
  · rename_i hn
    rcases List.mem_append.mp h with h | h
    · exact .inr ⟨h, fun q => hn (List.mem_map.mpr ⟨e, h, q⟩)⟩
    · exact .inl (List.mem_singleton.mp h)
structure PotT (H0 H : Hp) (s : Addr) (c : Str → Int → Int) (B : Str → Nat) (ws : List (Str × Addr)) : Prop where
  at_ : H s = some (.dK (spotKvs ws))
  nd : (ws.map (·.1)).Nodup
  name : ∀ e ∈ ws, IsName e.1
  new : H0 s = none
  terms : ∀ e ∈ ws, ∃ ts, TermsAt H e.2 ts ∧ (∀ k, cof ts k = c e.1 k) ∧ Canon ts ∧ ts.length ≤ B e.1
  none_ : ∀ n, ¬ n ∈ ws.map (·.1) → ∀ k, c n k = 0
  same : Same H0 H
theorem PotT.few {H0 H : Hp} {s : Addr} {c : Str → Int → Int} {B : Str → Nat} {ws : List (Str × Addr)} (h : PotT H0 H s c B ws) : ws.length < 64 := by
  have := names_few (ks := ws.map (·.1)) (fun n hn => by obtain ⟨e, he, rfl⟩ := List.mem_map.mp hn; exact h.name e he) h.nd
  simpa using this
theorem PotT.later {H0 H H' : Hp} {s : Addr} {c : Str → Int → Int} {B : Str → Nat} {ws : List (Str × Addr)} (h : PotT H0 H s c B ws) (k : Same H H') : PotT H0 H' s c B ws :=
  ⟨k _ _ h.at_, h.nd, h.name, h.new, fun e he => let ⟨ts, h1, h2⟩ := h.terms e he; ⟨ts, h1.same k, h2⟩, h.none_, h.same.trans k⟩
theorem PotT.le {H0 H : Hp} {s : Addr} {c : Str → Int → Int} {B B' : Str → Nat} {ws : List (Str × Addr)} (h : PotT H0 H s c B ws) (k : ∀ n, B n ≤ B' n) : PotT H0 H s c B' ws :=
  ⟨h.at_, h.nd, h.name, h.new, fun e he => let ⟨ts, h1, h2, h3, h4⟩ := h.terms e he; ⟨ts, h1, h2, h3, Nat.le_trans h4 (k _)⟩, h.none_, h.same⟩
theorem PotT.empty {H : Hp} {s : Addr} {B : Str → Nat} (h : H s = none) : PotT H (upd H s (.dK [])) s (fun _ _ => 0) B [] :=
  ⟨upd_same, by simp, by simp, h, by simp, fun _ _ _ => rfl, Same.new0 h⟩
theorem TermsAt.dk {H : Hp} {a s : Addr} {ts : Terms} {kvs : List (Key × V)} {o : HO} (h : TermsAt H a ts) (e : H s = some (.dK kvs)) : TermsAt (upd H s o) a ts := by
  obtain ⟨vs, e1, e2⟩ := h
  exact ⟨vs, (upd_ne (ne_of e1 e (by intro z; cases z))).trans e1, e2.tk ((Std.refl H).dk e).tk⟩
/-- what the dict has for a name, or an empty list at g -/
theorem PotT.get {H0 H : Hp} {s g : Addr} {c : Str → Int → Int} {B : Str → Nat} {ws : List (Str × Addr)} (h : PotT H0 H s c B ws) (n : Str) (hg : H g = some (.lst [])) : ∃ o a ts, DGet H s (.str n) o ∧ o.getD (.ref g) = .ref a ∧ TermsAt H a ts ∧ (∀ k, cof ts k = c n k) ∧ ts.length ≤ B n := by
  cases e : valV (spotKvs ws) (.inr n) with
  | none =>
    refine ⟨none, g, [], ?_, rfl, ⟨[], hg, rfl⟩, fun k => (h.none_ n (spot_none e) k).symm, Nat.zero_le _⟩
    have := DGet.k (k := .inr n) h.at_
    rw [e] at this
    exact this
  | some v =>
    obtain ⟨j, rfl, hj⟩ := spot_val e
    obtain ⟨ts, h1, h2, h3, h4⟩ := h.terms _ hj
    refine ⟨some (.ref j), j, ts, ?_, rfl, h1, h2, h4⟩
    have := DGet.k (k := .inr n) h.at_
    rw [e] at this
    exact this
theorem PotT.put {H0 H : Hp} {s a : Addr} {c d : Str → Int → Int} {B B' : Str → Nat} {ws : List (Str × Addr)} {n : Str} {ts : Terms} (h : PotT H0 H s c B ws) (hn : IsName n) (ha : TermsAt H a ts) (hc : Canon ts) (hd : ∀ k, cof ts k = d n k) (hk : ∀ m, m ≠ n → ∀ k, d m k = c m k) (hb : ts.length ≤ B' n) (hB : ∀ m, m ≠ n → B m ≤ B' m) :
    PotT H0 (upd H s (.dK (putK (spotKvs ws) (.inr n) (.ref a)))) s d B' (setW ws n a) := by
  rw [setW_put]
  refine ⟨upd_same, ?_, fun e he => ?_, h.new, fun e he => ?_, fun m hm k => ?_, Same.put h.same h.new⟩
  · rw [setW_names]
    split
    · exact h.nd
    · rename_i q
      refine List.nodup_append.mpr ⟨h.nd, by simp, fun x hx y hy e => q ?_⟩
      have hy := List.mem_singleton.mp hy
      subst hy
      rw [← e]; exact hx
  · rcases setW_mem he with rfl | ⟨h1, _⟩
    · exact hn
    · exact h.name e h1
  · rcases setW_mem he with rfl | ⟨h1, h2⟩
    · exact ⟨ts, ha.dk h.at_, hd, hc, hb⟩
    · obtain ⟨us, g1, g2, g3, g4⟩ := h.terms e h1
      exact ⟨us, g1.dk h.at_, fun k => (g2 k).trans (hk _ h2 k).symm, g3, Nat.le_trans g4 (hB _ h2)⟩
  · rw [setW_names] at hm
    have mn : m ≠ n := by
      rintro rfl
      split at hm
      · rename_i q; exact hm q
      · exact hm (List.mem_append.mpr (.inr (List.mem_singleton.mpr rfl)))
    rw [hk m mn]
    refine h.none_ m (fun q => hm ?_) k
    split
    · exact q
    · exact List.mem_append.mpr (.inl q)
end My

set_option Elab.async false
set_option linter.all false
set_option maxRecDepth 100000
namespace My
open PySem PySem.Spec PyProof.Rows L2
/-! ### jars whose powers lie within bounds -/
def JarIn (H : Hp) (a : Addr) (lo hi : Int) (c : Int → Int) : Prop := ∃ kvs, H a = some (.dK kvs) ∧ JarK kvs ∧ (∀ p ∈ kvs, ∃ k : Int, p.1 = Sum.inl k ∧ lo ≤ k ∧ k ≤ hi) ∧ ∀ k, cfK kvs k = c k
theorem nodup_le : ∀ {us bs : List Int}, us.Nodup → (∀ k ∈ us, k ∈ bs) → us.length ≤ bs.length
  | [], _, _, _ => Nat.zero_le _
  | u :: us, bs, h, hs => by
    obtain ⟨h1, h2⟩ := List.nodup_cons.mp h
    have hu := hs u (.head _)
    have : us.length ≤ (bs.erase u).length := nodup_le h2 fun k hk => by
      have hne : k ≠ u := by rintro rfl; exact h1 hk
      exact (List.mem_erase_of_ne hne).mpr (hs k (.tail _ hk))
    rw [List.length_erase_of_mem hu] at this
    have : 0 < bs.length := List.length_pos_of_mem hu
    rw [List.length_cons]
    omega
section
variable {H H' : Hp} {a p b : Addr} {lo hi : Int} {c d : Int → Int} {o : HO}
theorem JarIn.new {H : Hp} : JarIn (upd H p (.dK [])) p lo hi fun _ => 0 := ⟨[], upd_same, .nil, fun _ h => absurd h (by simp), fun _ => rfl⟩
theorem JarIn.same (h : JarIn H a lo hi c) (s : Same H H') : JarIn H' a lo hi c := let ⟨kvs, e, r⟩ := h; ⟨kvs, s _ _ e, r⟩
theorem JarIn.upd (h : JarIn H a lo hi c) (ne : a ≠ b) : JarIn (upd H b o) a lo hi c := let ⟨kvs, e, r⟩ := h; ⟨kvs, (upd_ne ne).trans e, r⟩
theorem JarIn.ext (h : JarIn H a lo hi c) (e : ∀ k, c k = d k) : JarIn H a lo hi d := let ⟨kvs, e1, r1, r2, r3⟩ := h; ⟨kvs, e1, r1, r2, fun k => (r3 k).trans (e k)⟩
theorem JarIn.wide {lo' hi' : Int} (h : JarIn H a lo hi c) (l : lo' ≤ lo) (u : hi ≤ hi') : JarIn H a lo' hi' c := let ⟨kvs, e1, r1, r2, r3⟩ := h; ⟨kvs, e1, r1, fun p hp => let ⟨k, a, b, d⟩ := r2 p hp; ⟨k, a, by omega, by omega⟩, r3⟩
theorem JarIn.at (h : JarIn H a lo hi c) : JarAt H a (hi - lo + 1).toNat c := by
  obtain ⟨kvs, e, hk, hb, hc⟩ := h
  refine ⟨kvs, e, hk, ?_, hc⟩
  obtain ⟨ks, e1, e2, e3, e4⟩ := hk.keys
  rw [← e4]
  refine Nat.le_trans (nodup_le (bs := (List.range (hi - lo + 1).toNat).map fun i => lo + (i : Nat)) e2 fun k hk' => ?_) (by rw [List.length_map, List.length_range]; exact Nat.le_refl _)
  have : Sum.inl k ∈ kvs.map (·.1) := by rw [e1]; exact List.mem_map.mpr ⟨k, hk', rfl⟩
  obtain ⟨q, hq, eq⟩ := List.mem_map.mp this
  obtain ⟨k', e5, l, u⟩ := hb q hq
  rw [eq] at e5
  cases e5
  exact List.mem_map.mpr ⟨(k - lo).toNat, List.mem_range.mpr (by omega), by omega⟩
theorem JarIn.isD {R : Addr → Prop} (h : JarIn H a lo hi c) (q : R a) : ∃ b, V.ref a = .ref b ∧ IsD H b ∧ R b := h.at.isD q
theorem JarIn.dget0 (h : JarIn H a lo hi c) (k : Int) : ∃ o, DGet H a (.int k) o ∧ o.getD (.int 0) = .int (c k) := h.at.dget0 k
theorem JarIn.dput {k v : Int} (h : JarIn H a lo hi c) (l : lo ≤ k) (u : k ≤ hi) (w : hi - lo ≤ 90000) : ∃ H', DPut H a (.int k) (.int v) H' ∧ But a H H' ∧ (∀ p, H p = none → p ≠ a → H' p = none) ∧ JarIn H' a lo hi (addAt c k v) := by
  have hn : (hi - lo + 1).toNat ≤ 1000000 := by omega
  obtain ⟨kvs0, e0, _, hl, _⟩ := h.at
  obtain ⟨kvs, e, hk, hb, hc⟩ := h
  cases e0.symm.trans e
  refine ⟨_, DPut.k (k := .inl k) e (Nat.lt_of_le_of_lt (Nat.le_trans hl hn) (by decide)), But.self (But.refl a H), fun p hp np => (upd_ne np).trans hp, _, upd_same, hk.put k v, fun q hq => ?_, fun j => ?_⟩
  · rcases mem_put hq with hq | rfl
    · exact hb q hq
    · exact ⟨k, rfl, l, u⟩
  · rw [cfK_put, hc]; rfl
end
def foldT (n : Int) (ts : Terms) : Terms := ts.map fun q => (q.1 % n, q.2)
theorem cof_foldT_low {n : Int} (h : 1 ≤ n) {ts : Terms} {k : Int} (hk : k < 0 ∨ n ≤ k) : cof (foldT n ts) k = 0 := cof_none fun p hp e => by
  obtain ⟨q, _, rfl⟩ := List.mem_map.mp hp
  have := Int.emod_nonneg q.1 (b := n) (by omega)
  have := Int.emod_lt_of_pos q.1 (b := n) (by omega)
  have : q.1 % n = k := e
  omega
end My

set_option Elab.async false
set_option linter.all false
set_option maxRecDepth 100000
namespace M11
def strip : Nat → Nat → Nat → Nat
  | 0, l, _ => l
  | f + 1, l, d => if l % d = 0 then strip f (l / d) d else l
def pf : Nat → Nat → Nat → List Nat
  | 0, _, _ => []
  | f + 1, l, d => if d * d ≤ l then (if l % d = 0 then d :: pf f (strip 14 l d) (d + 1) else pf f l (d + 1)) else (if 1 < l then [l] else [])
def primes (n : Nat) : List Nat := pf 200 n 2
def phi (n : Nat) : Nat := (primes n).foldl (fun r p => r / p * (p - 1)) n
theorem pf_yes {f l d : Nat} (h : d * d ≤ l) (h' : l % d = 0) : pf (f + 1) l d = d :: pf f (strip 14 l d) (d + 1) := by
  rw [pf, if_pos h, if_pos h']
theorem pf_no {f l d : Nat} (h : d * d ≤ l) (h' : ¬ l % d = 0) : pf (f + 1) l d = pf f l (d + 1) := by
  rw [pf, if_pos h, if_neg h']
theorem pf_end {f l d : Nat} (h : ¬ d * d ≤ l) : pf (f + 1) l d = if 1 < l then [l] else [] := by
  rw [pf, if_neg h]
theorem strip_yes {f l d : Nat} (h : l % d = 0) : strip (f + 1) l d = strip f (l / d) d := by rw [strip, if_pos h]
theorem strip_no {f l d : Nat} (h : ¬ l % d = 0) : strip f l d = l := by
  cases f with
  | zero => rfl
  | succ f => rw [strip, if_neg h]
theorem strip_le : ∀ (f l d : Nat), strip f l d ≤ l
  | 0, l, d => Nat.le_refl _
  | f + 1, l, d => by
    rw [strip]
    split
    · exact Nat.le_trans (strip_le f (l / d) d) (Nat.div_le_self _ _)
    · exact Nat.le_refl _
theorem pf_mem : ∀ (f l d : Nat), 2 ≤ d → ∀ p ∈ pf f l d, 2 ≤ p ∧ p ≤ l
  | 0, l, d, _, p, h => by rw [pf] at h; cases h
  | f + 1, l, d, hd, p, h => by
    rw [pf] at h
    split at h
    · rename_i e
      have dl : d ≤ l := Nat.le_trans (Nat.le_mul_of_pos_left d (by omega)) e
      split at h
      · rcases List.mem_cons.mp h with rfl | h
        · exact ⟨hd, dl⟩
        · have := pf_mem f _ (d + 1) (by omega) p h
          exact ⟨this.1, Nat.le_trans this.2 (strip_le _ _ _)⟩
      · exact pf_mem f _ (d + 1) (by omega) p h
    · split at h
      · rcases List.mem_cons.mp h with rfl | h
        · exact ⟨by omega, Nat.le_refl _⟩
        · cases h
      · cases h
theorem primes_mem {n p : Nat} (h : p ∈ primes n) : 2 ≤ p ∧ p ≤ n := pf_mem 200 n 2 (by omega) p h
theorem start_eq (n : Nat) : [] ++ pf (200 - 0) n (2 + 0) = primes n := by
  rw [List.nil_append, Nat.sub_zero, Nat.add_zero, primes]
def phiTo (n i : Nat) : Nat := ((primes n).take i).foldl (fun r p => r / p * (p - 1)) n
theorem phiTo_succ {n i p : Nat} (h : (primes n)[i]? = some p) : phiTo n (i + 1) = phiTo n i / p * (p - 1) := by
  unfold phiTo
  rw [List.take_add_one, h, List.foldl_append]
  rfl
theorem phiTo_all (n : Nat) : phiTo n (primes n).length = phi n := by
  unfold phiTo phi
  rw [List.take_length]
theorem phiTo_le (n i : Nat) : phiTo n i ≤ n := by
  induction i with
  | zero => exact Nat.le_refl _
  | succ i ih =>
    cases h : (primes n)[i]? with
    | none =>
      have : phiTo n (i + 1) = phiTo n i := by
        unfold phiTo
        rw [List.take_add_one, h]
        simp
      omega
    | some p =>
      rw [phiTo_succ h]
      have : phiTo n i / p * (p - 1) ≤ phiTo n i / p * p := Nat.mul_le_mul_left _ (Nat.sub_le _ _)
      have h2 := Nat.div_mul_le_self (phiTo n i) p
      omega
theorem phi_le (n : Nat) : phi n ≤ n := by rw [← phiTo_all]; exact phiTo_le _ _
end M11

set_option Elab.async false
set_option linter.all false
set_option maxRecDepth 100000
namespace My
open PySem PySem.Spec PyProof.Rows L2
section
variable {X : Cx}
end
/-! ### jars by their entries -/
def jarK (ks : List Int) (c : Int → Int) : List (Key × V) := ks.map fun q => (Sum.inl q, V.int (c q))
theorem jarK_len (ks : List Int) (c : Int → Int) : (jarK ks c).length = ks.length := List.length_map _
theorem val_of_mem : ∀ {kvs : List (Key × V)}, (kvs.map (·.1)).Nodup → ∀ {k : Key} {v : V}, (k, v) ∈ kvs → valV kvs k = some v
  | [], _, _, _, h => by cases h
  | p :: l, nd, k, v, h => by
    rw [List.map_cons] at nd
    obtain ⟨h1, h2⟩ := List.nodup_cons.mp nd
    unfold valV
    rw [List.find?_cons]
    by_cases e : p.1 = k
    · rw [decide_eq_true e]
      rcases List.mem_cons.mp h with h | h
      · rw [← h]; rfl
      · exact absurd (List.mem_map.mpr ⟨_, h, rfl⟩) (by rw [e] at h1; exact h1)
    · rw [decide_eq_false e]
      rcases List.mem_cons.mp h with h | h
      · exact absurd (by rw [← h]) e
      · exact val_of_mem h2 h
theorem jarK_keys (ks : List Int) (c : Int → Int) : (jarK ks c).map (·.1) = ks.map Sum.inl := by unfold jarK; rw [List.map_map]; rfl
theorem jarK_jar {ks : List Int} (nd : ks.Nodup) (c : Int → Int) : JarK (jarK ks c) := ⟨fun p hp => by
  obtain ⟨q, _, rfl⟩ := List.mem_map.mp hp
  exact ⟨_, _, rfl⟩, by rw [jarK_keys]; exact List.pairwise_map.mpr (nd.imp fun a z => a (Sum.inl.inj z))⟩
theorem JarIn.of {H : Hp} {a : Addr} {lo hi : Int} {c : Int → Int} {ks : List Int} (h : H a = some (.dK (jarK ks c))) (nd : ks.Nodup) (b : ∀ k ∈ ks, lo ≤ k ∧ k ≤ hi) (z : ∀ k, ¬ k ∈ ks → c k = 0) : JarIn H a lo hi c := by
  have J := jarK_jar nd c
  refine ⟨_, h, J, fun p hp => ?_, fun k => ?_⟩
  · obtain ⟨q, hq, rfl⟩ := List.mem_map.mp hp
    exact ⟨q, rfl, (b q hq).1, (b q hq).2⟩
  · by_cases e : k ∈ ks
    · have hm : (Sum.inl k, V.int (c k)) ∈ jarK ks c := List.mem_map.mpr ⟨k, e, rfl⟩
      unfold cfK
      rw [val_of_mem J.nd hm]
    · obtain ⟨ks', e1, _, e3, _⟩ := J.keys
      rw [jarK_keys] at e1
      have e2 : ks = ks' := by
        have := congrArg (List.map fun k : Key => match k with | .inl q => q | .inr _ => 0) e1
        rw [List.map_map, List.map_map] at this
        exact (List.map_id ks).symm.trans (this.trans (List.map_id ks'))
      rw [z k e]
      exact e3 k (by rw [← e2]; exact e)
/-- a jar without numbers 0 -/
def JarE (H : Hp) (a : Addr) (n : Nat) (c : Int → Int) : Prop := ∃ ks : List Int, H a = some (.dK (jarK ks c)) ∧ ks.Nodup ∧ (∀ k ∈ ks, 0 ≤ k ∧ k < n ∧ c k ≠ 0) ∧ ∀ k, ¬ k ∈ ks → c k = 0
theorem JarE.same {H H' : Hp} {a : Addr} {n : Nat} {c : Int → Int} (h : JarE H a n c) (s : Same H H') : JarE H' a n c := let ⟨ks, e, r⟩ := h; ⟨ks, s _ _ e, r⟩
theorem JarE.at {H : Hp} {a : Addr} {n : Nat} {c : Int → Int} (h : JarE H a n c) : JarIn H a 0 ((n : Int) - 1) c := let ⟨ks, e, nd, b, z⟩ := h; .of e nd (fun k hk => ⟨(b k hk).1, by have := (b k hk).2.1; omega⟩) z
section
variable {σ : L2.St} {H : Hp} {Q : VK} {td te : TE} {R : It → Hp → Prop} {D : Ends} {g : TG} {tb : TS} {d : Addr} {od : Obj} {ks : List Int} {c : Int → Int}
theorem r_iItems (q : td σ H fun x H1 => ∃ d o kvs, x = .ref d ∧ H1 d = some (.frz o (.dK kvs)) ∧ R (Iti d o kvs) H1) : iItems td σ H R := q
theorem r_dc {wi : TI} {tt : TT} {tk tv : TE} {vs : List Nat} (q : wi σ H fun J H1 => ∀ D, H1 D = none → ∃ W : Nat → Nat → Hp → Prop, (∃ m, W 0 m (upd H1 D (.dK []))) ∧ ∀ i m H, W i m H →
  (J.stop i H ∧ Q (.ref D) H) ∨ (J.go i H ∧ ∃ Nx : Hp → Prop, (∀ H', Nx H' → ∃ m', m' < m ∧ W (i + 1) m' H') ∧ ∀ x H', J.yld i H x H' → g x (wipe σ vs) H' fun σ2 H2 => wipe σ2 vs = wipe σ vs ∧ tt σ2 H2 fun b H3 =>
    if b = true then tk σ2 H3 fun y H4 => tv σ2 H4 fun z H5 => ∃ kvs k, y = kV k ∧ H5 D = some (.dK kvs) ∧ kvs.length < sizeLine ∧ Nx (upd H5 D (.dK (putK kvs k z))) else Nx H3)) : tDc wi g tt tk tv vs σ H Q := q
end
/-! ### rows by what the powers leave -/
def stepF (n s : Nat) (c : Int → Int) : Int → Int := fun k => if 0 ≤ k ∧ k < n then c k - c ((k + s) % n) else 0
def foldR (n : Nat) (ps : List Nat) (c : Int → Int) : Int → Int := ps.foldl (fun c p => stepF n (n / p) c) c
theorem foldR_out {n : Nat} {c : Int → Int} (h : ∀ k : Int, ¬ (0 ≤ k ∧ k < n) → c k = 0) : ∀ (ps : List Nat) (k : Int), ¬ (0 ≤ k ∧ k < n) → foldR n ps c k = 0
  | [], k, z => h k z
  | p :: ps, k, z => foldR_out (c := stepF n (n / p) c) (fun (k : Int) z => if_neg z) ps k z
theorem key_len {ks : List Int} {n : Nat} (nd : ks.Nodup) (b : ∀ k ∈ ks, 0 ≤ k ∧ k ≤ (n : Int) - 1) : ks.length ≤ n := by
  have := nodup_le (bs := (List.range n).map fun i => ((i : Nat) : Int)) nd fun k hk => List.mem_map.mpr ⟨k.toNat, List.mem_range.mpr (by have := b k hk; omega), by have := b k hk; omega⟩
  rwa [List.length_map, List.length_range] at this
/-! ### zero at an order -/
def rowL (n : Nat) (ts : Terms) : List Int := (List.range n).map fun i => foldR n (M11.primes n) (cof (foldT n ts)) ((i : Nat) : Int)
theorem rowR_out {n : Nat} (n1 : 1 ≤ n) (ts : Terms) (ps : List Nat) (k : Int) (h : ¬ (0 ≤ k ∧ k < n)) : foldR n ps (cof (foldT n ts)) k = 0 :=
  foldR_out (fun k h => cof_foldT_low (by omega) (by omega)) ps k h
theorem rowL_zero {n : Nat} (n1 : 1 ≤ n) (ts : Terms) : (rowL n ts).all (· == 0) = true ↔ ∀ k, foldR n (M11.primes n) (cof (foldT n ts)) k = 0 := by
  rw [List.all_eq_true]
  constructor
  · intro h k
    by_cases e : 0 ≤ k ∧ k < n
    · have := h _ (List.mem_map.mpr ⟨k.toNat, List.mem_range.mpr (by omega), rfl⟩)
      rw [show ((k.toNat : Nat) : Int) = k by omega] at this
      exact beq_iff_eq.mp this
    · exact rowR_out n1 ts _ k e
  · intro h x hx
    obtain ⟨i, _, rfl⟩ := List.mem_map.mp hx
    exact beq_iff_eq.mpr (h _)
theorem JarE.len {H : Hp} {a : Addr} {n : Nat} {ts : Terms} (n1 : 1 ≤ n) (h : JarE H a n (foldR n (M11.primes n) (cof (foldT n ts)))) : ∃ kvs : List (Key × V), H a = some (.dK kvs) ∧ kvs.length ≤ n ∧ decide ((kvs.length : Int) = 0) = (rowL n ts).all (· == 0) := by
  obtain ⟨ks, e, nd, b, z⟩ := h
  refine ⟨_, e, by rw [jarK_len]; exact key_len nd fun k hk => ⟨(b k hk).1, by have := (b k hk).2.1; omega⟩, ?_⟩
  rw [jarK_len, Bool.eq_iff_iff, rowL_zero n1, decide_eq_true_iff]
  constructor
  · intro h k
    refine z k fun hk => ?_
    have := List.length_pos_of_mem hk
    omega
  · intro h
    cases ks with
    | nil => rfl
    | cons k l => exact absurd (h k) (b k (.head _)).2.2
/-! ### sums over terms -/
def sumT (f : Int → Int) : Terms → Int
  | [] => 0
  | p :: ts => p.2 * f p.1 + sumT f ts
theorem sumT_app (f : Int → Int) : ∀ (ts us : Terms), sumT f (ts ++ us) = sumT f ts + sumT f us
  | [], us => by rw [List.nil_append, sumT]; omega
  | p :: ts, us => by rw [List.cons_append, sumT, sumT, sumT_app f ts us]; omega
theorem sumT_neg (f : Int → Int) : ∀ (ts : Terms), sumT f (negT ts) = -sumT f ts
  | [] => rfl
  | p :: ts => by
    show -p.2 * f p.1 + sumT f (negT ts) = -(p.2 * f p.1 + sumT f ts)
    rw [sumT_neg f ts, Int.neg_mul]; omega
theorem sumT_part (f : Int → Int) (k : Int) : ∀ (ts : Terms), sumT f ts = cof ts k * f k + sumT f (ts.filter fun p => decide (p.1 ≠ k))
  | [] => by rw [cof]; simp [sumT]
  | p :: ts => by
    have ih := sumT_part f k ts
    rw [sumT, cof]
    by_cases e : p.1 = k
    · rw [if_pos e, List.filter_cons_of_neg (by simpa using e), ih, e, Int.add_mul]; omega
    · rw [if_neg e, List.filter_cons_of_pos (by simpa using e), sumT, ih, Int.zero_add]; omega
theorem cof_part (k : Int) : ∀ (ts : Terms) (j : Int), cof (ts.filter fun p => decide (p.1 ≠ k)) j = if j = k then 0 else cof ts j
  | [], j => by show (0 : Int) = if j = k then 0 else 0; split <;> rfl
  | p :: ts, j => by
    have ih := cof_part k ts j
    by_cases e : p.1 = k
    · rw [List.filter_cons_of_neg (by simpa using e), ih, cof]
      by_cases z : j = k
      · rw [if_pos z, if_pos z]
      · rw [if_neg z, if_neg z, if_neg (by omega)]; omega
    · rw [List.filter_cons_of_pos (by simpa using e), cof, ih, cof]
      by_cases z : j = k
      · rw [if_pos z, if_pos z, if_neg (by omega)]; rfl
      · rw [if_neg z, if_neg z]
theorem sumT_zero (f : Int → Int) : ∀ (n : Nat) (ts : Terms), ts.length ≤ n → (∀ k, cof ts k = 0) → sumT f ts = 0
  | _, [], _, _ => rfl
  | 0, p :: ts, h, _ => by simp at h
  | n + 1, p :: ts, h, z => by
    rw [sumT_part f p.1, z, List.filter_cons_of_neg (by simp), sumT_zero f n _ (Nat.le_trans (List.length_filter_le _ _) (by rw [List.length_cons] at h; omega)) (fun k => ?_)]
    · omega
    · have h1 := cof_part p.1 (p :: ts) k
      rw [List.filter_cons_of_neg (by simp)] at h1
      rw [h1, z]
      split <;> rfl
theorem sumT_ext (f : Int → Int) {ts us : Terms} (h : ∀ k, cof ts k = cof us k) : sumT f ts = sumT f us := by
  have := sumT_zero f _ (ts ++ negT us) (Nat.le_refl _) fun k => by rw [cof_app, cof_neg, h]; omega
  rw [sumT_app, sumT_neg] at this
  omega
theorem cof_foldT (n k : Int) : ∀ (ts : Terms), cof (foldT n ts) k = sumT (fun j => if j % n = k then 1 else 0) ts
  | [] => rfl
  | p :: ts => by
    show (if p.1 % n = k then p.2 else 0) + cof (foldT n ts) k = p.2 * (if p.1 % n = k then 1 else 0) + _
    rw [cof_foldT n k ts]
    by_cases e : p.1 % n = k
    · rw [if_pos e, if_pos e]; omega
    · rw [if_neg e, if_neg e]; omega
theorem foldT_ext {n : Int} {ts us : Terms} (h : ∀ k, cof ts k = cof us k) (k : Int) : cof (foldT n ts) k = cof (foldT n us) k := by
  rw [cof_foldT, cof_foldT]; exact sumT_ext _ h
theorem foldR_ext {n : Nat} : ∀ (ps : List Nat) {c d : Int → Int}, (∀ k, c k = d k) → ∀ k, foldR n ps c k = foldR n ps d k
  | [], _, _, h, k => h k
  | p :: ps, c, d, h, k => foldR_ext ps (c := stepF n (n / p) c) (d := stepF n (n / p) d) (fun k => by unfold stepF; rw [h, h]) k
end My

set_option Elab.async false
set_option linter.all false
set_option maxRecDepth 100000
namespace My
/-! ### for each order a prime number and an element of this order (printed by mk_LibFy.py) -/
end My

set_option Elab.async false
set_option linter.all false
set_option maxRecDepth 100000
namespace My
open PySem PySem.Spec PyProof.Rows L2
/-! ### a division of polynomials -/
theorem Canon.last : ∀ {ts : Terms} {q : Int × Int}, Canon ts → ts.getLast? = some q → ∀ p ∈ ts, p.1 ≤ q.1
  | [], _, _, _, _, hp => by cases hp
  | [a], q, _, h, p, hp => by
    rw [List.mem_singleton.mp hp]
    simp at h
    rw [h]; exact Int.le_refl _
  | a :: b :: ts, q, hc, h, p, hp => by
    rw [List.getLast?_cons_cons] at h
    have ih := Canon.last hc.tail h
    rcases List.mem_cons.mp hp with rfl | hp
    · have h1 := (List.pairwise_cons.mp hc.asc).1 b (.head _)
      have h2 := ih b (.head _)
      omega
    · exact ih p hp
theorem Canon.high {ts : Terms} {q : Int × Int} (h : Canon ts) (e : ts.getLast? = some q) {k : Int} (hk : q.1 < k) : cof ts k = 0 := cof_none fun p hp z => by have := h.last e p hp; omega
theorem Canon.low' {ts : Terms} {q : Int × Int} (h : Canon ts) (e : ts.head? = some q) {k : Int} (hk : k < q.1) : cof ts k = 0 := by
  cases ts with
  | nil => cases e
  | cons p ts => cases e; exact h.low hk
/-- a polynomial by which one can divide: least power 0, greatest power w, 1 or -1 at both ends -/
structure DivT (ds : Terms) (w : Int) : Prop where
  canon : Canon ds
  lo : ∃ e, ds.head? = some (0, e) ∧ (e = 1 ∨ e = -1)
  hi : ∃ e, ds.getLast? = some (w, e) ∧ (e = 1 ∨ e = -1)
theorem mem_head {α : Type} {l : List α} {x : α} (h : l.head? = some x) : x ∈ l := by cases l with | nil => cases h | cons a l => cases h; exact .head _
theorem DivT.w0 {ds : Terms} {w : Int} (D : DivT ds w) : 0 ≤ w := by
  obtain ⟨e, h, _⟩ := D.lo
  obtain ⟨e', h', _⟩ := D.hi
  exact D.canon.last h' _ (mem_head h)
theorem DivT.at0 {ds : Terms} {w : Int} (D : DivT ds w) : cof ds 0 = 1 ∨ cof ds 0 = -1 := by
  obtain ⟨e, h, he⟩ := D.lo
  have := D.canon.at (mem_head h)
  rw [this]; exact he
theorem DivT.atw {ds : Terms} {w : Int} (D : DivT ds w) : cof ds w = 1 ∨ cof ds w = -1 := by
  obtain ⟨e, h, he⟩ := D.hi
  have := D.canon.at (List.mem_of_getLast? h)
  rw [this]; exact he
theorem DivT.neg {ds : Terms} {w k : Int} (D : DivT ds w) (h : k < 0) : cof ds k = 0 := by
  obtain ⟨e, h', _⟩ := D.lo
  exact D.canon.low' h' h
theorem DivT.up {ds : Terms} {w k : Int} (D : DivT ds w) (h : w < k) : cof ds k = 0 := by
  obtain ⟨e, h', _⟩ := D.hi
  exact D.canon.high h' h
theorem cmul_single {j : Int} {c : Int → Int} {k : Int} : ∀ (ts : Terms), (∀ p ∈ ts, p.1 ≠ j → c (k - p.1) = 0) → cmul ts c k = cof ts j * c (k - j)
  | [], _ => by rw [cmul, cof]; simp
  | p :: ts, h => by
    rw [cmul, cof, cmul_single ts fun q hq => h q (.tail _ hq), Int.add_mul]
    by_cases e : p.1 = j
    · rw [if_pos e, e]
    · rw [if_neg e, h p (.head _) e]; simp
theorem exists_max {P : Int → Prop} : ∀ (l : List Int), (∃ k ∈ l, P k) → ∃ k ∈ l, P k ∧ ∀ j ∈ l, P j → j ≤ k
  | [], ⟨_, h, _⟩ => by cases h
  | a :: l, ⟨k, hk, pk⟩ => by
    by_cases hl : ∃ k ∈ l, P k
    · obtain ⟨m, hm, pm, hx⟩ := exists_max l hl
      by_cases ha : P a ∧ m < a
      · refine ⟨a, .head _, ha.1, fun j hj pj => ?_⟩
        rcases List.mem_cons.mp hj with rfl | hj
        · exact Int.le_refl _
        · have := hx j hj pj; omega
      · refine ⟨m, .tail _ hm, pm, fun j hj pj => ?_⟩
        rcases List.mem_cons.mp hj with rfl | hj
        · exact Int.not_lt.mp fun z => ha ⟨pj, z⟩
        · exact hx j hj pj
    · rcases List.mem_cons.mp hk with rfl | hk
      · refine ⟨k, .head _, pk, fun j hj pj => ?_⟩
        rcases List.mem_cons.mp hj with rfl | hj
        · exact Int.le_refl _
        · exact absurd ⟨j, hj, pj⟩ hl
      · exact absurd ⟨k, hk, pk⟩ hl
theorem supp_mem {ts : Terms} {k : Int} (h : cof ts k ≠ 0) : k ∈ ts.map (·.1) := by
  refine Decidable.byContradiction fun z => h (cof_none fun p hp e => z (List.mem_map.mpr ⟨p, hp, e⟩))
/-- no polynomial but 0 times a divisor lies within 0 .. w - 1 -/
theorem div_zero {ds : Terms} {w : Int} (D : DivT ds w) {us : Terms} (h : ∀ k, k < 0 ∨ w ≤ k → cmul us (cof ds) k = 0) : ∀ k, cof us k = 0 := by
  intro k0
  refine Decidable.byContradiction fun z => ?_
  obtain ⟨m, _, pm, hm⟩ := exists_max (P := fun k => cof us k ≠ 0) (us.map (·.1)) ⟨k0, supp_mem z, z⟩
  have hup : ∀ k, m < k → cof us k = 0 := fun k hk => Decidable.byContradiction fun y => by have := hm k (supp_mem y) y; omega
  by_cases m0 : 0 ≤ m
  · have e1 := h (m + w) (.inr (by omega))
    rw [cmul_comm, cmul_single (j := w) ds fun p hp hne => ?_] at e1
    · rw [show m + w - w = m by omega] at e1
      rcases D.atw with e | e <;> rw [e] at e1 <;> omega
    · obtain ⟨e, h', _⟩ := D.hi
      have := D.canon.last h' p hp
      exact hup _ (by omega)
  · obtain ⟨m', hm', pm', hx⟩ := exists_max (P := fun k => cof us (-k) ≠ 0) (us.map (-·.1)) ⟨-m, List.mem_map.mpr (by
      obtain ⟨p, hp, e⟩ := List.mem_map.mp (supp_mem pm)
      exact ⟨p, hp, by rw [e]⟩), by rw [Int.neg_neg]; exact pm⟩
    have hdn : ∀ k, k < -m' → cof us k = 0 := fun k hk => Decidable.byContradiction fun y => by
      have := hx (-k) (by
        obtain ⟨p, hp, e⟩ := List.mem_map.mp (supp_mem y)
        exact List.mem_map.mpr ⟨p, hp, by rw [e]⟩) (by rw [Int.neg_neg]; exact y)
      omega
    have l1 : -m' ≤ m := Int.not_lt.mp fun y => pm' (hup _ (by omega))
    have e1 := h (-m') (.inl (by omega))
    rw [cmul_comm, cmul_single (j := 0) ds fun p hp hne => ?_] at e1
    · rw [show -m' - 0 = -m' by omega] at e1
      rcases D.at0 with e | e <;> rw [e] at e1 <;> omega
    · have : 0 ≤ p.1 := by
        refine Decidable.byContradiction fun y => ?_
        have q1 := D.canon.at hp
        rw [D.neg (by omega)] at q1
        exact D.canon.nz p hp q1.symm
      exact hdn _ (by omega)
/-- quotient and rest -/
structure DivR (c : Int → Int) (ds : Terms) (w : Int) (qs rs : Terms) : Prop where
  eq : ∀ k, c k = cmul qs (cof ds) k + cof rs k
  low : ∀ k, k < 0 → cof rs k = 0
  high : ∀ k, w ≤ k → cof rs k = 0
theorem cmul_negT : ∀ (ts : Terms) (d : Int → Int) (k : Int), cmul (negT ts) d k = -cmul ts d k
  | [], _, _ => rfl
  | p :: ts, d, k => by
    show -p.2 * d (k - p.1) + cmul (negT ts) d k = -(p.2 * d (k - p.1) + cmul ts d k)
    rw [cmul_negT ts d k, Int.neg_mul]
    omega
theorem DivR.unique {c : Int → Int} {ds : Terms} {w : Int} {qs rs qs' rs' : Terms} (D : DivT ds w) (h : DivR c ds w qs rs) (h' : DivR c ds w qs' rs') : (∀ k, cof qs k = cof qs' k) ∧ ∀ k, cof rs k = cof rs' k := by
  have e : ∀ k, cmul qs (cof ds) k = cmul qs' (cof ds) k + (cof rs' k - cof rs k) := fun k => by have := h.eq k; have := h'.eq k; omega
  have z := div_zero D (us := qs ++ negT qs') fun k hk => by
    rw [cmul_app, cmul_negT, e]
    rcases hk with hk | hk
    · rw [h.low k hk, h'.low k hk]; omega
    · rw [h.high k hk, h'.high k hk]; omega
  have q : ∀ k, cof qs k = cof qs' k := fun k => by
    have := z k
    rw [cof_app, cof_neg] at this
    omega
  refine ⟨q, fun k => ?_⟩
  have := e k
  rw [cmul_ext q (fun _ => rfl) k] at this
  omega
/-- the division under way: the terms so far, what is left -/
structure DivS (c : Int → Int) (ds : Terms) (w lo hi : Int) (n1 i B M : Nat) (T : Terms) (L : Int → Int) : Prop where
  eq : ∀ k, c k = cmul T (cof ds) k + L k
  up : ∀ k, w ≤ k → hi + 1 - i ≤ k → L k = 0
  dn : ∀ k, k < 0 → k < lo + ((i - n1 : Nat) : Int) → L k = 0
  bd : ∀ k, (L k).natAbs ≤ B * (1 + M) ^ i
  tb : ∀ p ∈ T, p.2.natAbs ≤ B * (1 + M) ^ i
theorem DivS.start {c : Int → Int} {ds : Terms} {w lo hi : Int} {n1 B M : Nat} (h1 : ∀ k, hi < k → c k = 0) (h2 : ∀ k, k < lo → c k = 0) (h3 : ∀ k, (c k).natAbs ≤ B) : DivS c ds w lo hi n1 0 B M [] c :=
  ⟨fun k => by rw [cmul]; omega, fun k _ hk => h1 k (by omega), fun k _ hk => h2 k (by simpa using hk), fun k => by simpa using h3 k, fun _ h => by cases h⟩
theorem DivS.bound {L : Int → Int} {ds : Terms} {B M i : Nat} {s f : Int} (bd : ∀ k, (L k).natAbs ≤ B * (1 + M) ^ i) (hM : ∀ k, (cof ds k).natAbs ≤ M) (hf : f.natAbs ≤ B * (1 + M) ^ i) (k : Int) : (L k - f * cof ds (k - s)).natAbs ≤ B * (1 + M) ^ (i + 1) := by
  have h1 := bd k
  have h2 : (f * cof ds (k - s)).natAbs ≤ B * (1 + M) ^ i * M := by rw [Int.natAbs_mul]; exact Nat.mul_le_mul hf (hM _)
  have h3 : B * (1 + M) ^ (i + 1) = B * (1 + M) ^ i + B * (1 + M) ^ i * M := by rw [Nat.pow_succ, ← Nat.mul_assoc, Nat.mul_add, Nat.mul_one]
  omega
theorem pow_up (B M i : Nat) : B * (1 + M) ^ i ≤ B * (1 + M) ^ (i + 1) := Nat.mul_le_mul_left _ (Nat.pow_le_pow_right (by omega) (by omega))
theorem tb_snoc {T : Terms} {B M i : Nat} {s f : Int} (h : ∀ p ∈ T, p.2.natAbs ≤ B * (1 + M) ^ i) (hf : f.natAbs ≤ B * (1 + M) ^ i) : ∀ p ∈ T ++ [(s, f)], p.2.natAbs ≤ B * (1 + M) ^ (i + 1) := fun p hp => by
  rcases List.mem_append.mp hp with hp | hp
  · exact Nat.le_trans (h p hp) (pow_up _ _ _)
  · rw [List.mem_singleton.mp hp]; exact Nat.le_trans hf (pow_up _ _ _)
theorem cmul_snoc (T : Terms) (s f : Int) (d : Int → Int) (k : Int) : cmul (T ++ [(s, f)]) d k = cmul T d k + f * d (k - s) := by
  rw [cmul_app]
  show _ + (f * d (k - s) + 0) = _
  omega
theorem DivS.same {c : Int → Int} {ds : Terms} {w lo hi : Int} {n1 i B M : Nat} {T : Terms} {L : Int → Int} (h : DivS c ds w lo hi n1 i B M T L) (hz : (i < n1 → L (hi - i) = 0) ∧ (n1 ≤ i → L (lo + ((i - n1 : Nat) : Int)) = 0)) (hn : n1 = (hi - w + 1).toNat) : DivS c ds w lo hi n1 (i + 1) B M T L := by
  refine ⟨h.eq, fun k h1 h2 => ?_, fun k h1 h2 => ?_, fun k => Nat.le_trans (h.bd k) (pow_up _ _ _), fun p hp => Nat.le_trans (h.tb p hp) (pow_up _ _ _)⟩
  · by_cases e : hi + 1 - i ≤ k
    · exact h.up k h1 e
    · by_cases hi' : i < n1
      · have := hz.1 hi'
        rw [show k = hi - i by omega]; exact this
      · exact h.up k h1 (by omega)
  · by_cases e : k < lo + ((i - n1 : Nat) : Int)
    · exact h.dn k h1 e
    · by_cases hi' : i < n1
      · exact h.dn k h1 (by omega)
      · have := hz.2 (by omega)
        rw [show k = lo + ((i - n1 : Nat) : Int) by omega]; exact this
/-- a step down: at the power hi - i -/
theorem DivS.step1 {c : Int → Int} {ds : Terms} {w lo hi : Int} {n1 i B M : Nat} {T : Terms} {L : Int → Int} (D : DivT ds w) (h : DivS c ds w lo hi n1 i B M T L) (hn : n1 = (hi - w + 1).toNat) (hi' : i < n1) (hM : ∀ k, (cof ds k).natAbs ≤ M) :
    DivS c ds w lo hi n1 (i + 1) B M (T ++ [(hi - i - w, L (hi - i) * cof ds w)]) (fun k => L k - L (hi - i) * cof ds w * cof ds (k - (hi - i - w))) := by
  have hf : (L (hi - i) * cof ds w).natAbs ≤ B * (1 + M) ^ i := by
    have := h.bd (hi - i)
    rcases D.atw with e | e <;> rw [e] <;> omega
  refine ⟨fun k => by rw [cmul_snoc, h.eq]; omega, fun k h1 h2 => ?_, fun k h1 h2 => ?_, DivS.bound h.bd hM hf, tb_snoc h.tb hf⟩
  · show L k - _ = 0
    by_cases e : k = hi - i
    · rw [e, show hi - i - (hi - i - w) = w by omega]
      rcases D.atw with e | e <;> rw [e] <;> omega
    · rw [h.up k h1 (by omega), D.up (by omega : w < k - (hi - i - w))]; omega
  · show L k - _ = 0
    rw [h.dn k h1 (by omega), D.neg (by omega : k - (hi - i - w) < 0)]; omega
theorem DivS.step2 {c : Int → Int} {ds : Terms} {w lo hi : Int} {n1 i B M : Nat} {T : Terms} {L : Int → Int} (D : DivT ds w) (h : DivS c ds w lo hi n1 i B M T L) (hn : n1 = (hi - w + 1).toNat) (hi' : n1 ≤ i) (hl : lo + ((i - n1 : Nat) : Int) < 0) (hM : ∀ k, (cof ds k).natAbs ≤ M) :
    DivS c ds w lo hi n1 (i + 1) B M (T ++ [(lo + ((i - n1 : Nat) : Int), L (lo + ((i - n1 : Nat) : Int)) * cof ds 0)]) (fun k => L k - L (lo + ((i - n1 : Nat) : Int)) * cof ds 0 * cof ds (k - (lo + ((i - n1 : Nat) : Int)))) := by
  generalize hp : lo + ((i - n1 : Nat) : Int) = p at *
  have hf : (L p * cof ds 0).natAbs ≤ B * (1 + M) ^ i := by
    have := h.bd p
    rcases D.at0 with e | e <;> rw [e] <;> omega
  refine ⟨fun k => by rw [cmul_snoc, h.eq]; omega, fun k h1 h2 => ?_, fun k h1 h2 => ?_, DivS.bound h.bd hM hf, tb_snoc h.tb hf⟩
  · show L k - _ = 0
    rw [h.up k h1 (by omega), D.up (by omega : w < k - p)]; omega
  · show L k - _ = 0
    by_cases e : k = p
    · rw [e, show p - p = 0 by omega]
      rcases D.at0 with e | e <;> rw [e] <;> omega
    · rw [h.dn k h1 (by omega), D.neg (by omega : k - p < 0)]; omega
theorem cof_map : ∀ {ys : List Int}, ys.Pairwise (· < ·) → ∀ (f : Int → Int) (k : Int), cof (ys.map fun k => (k, f k)) k = if k ∈ ys then f k else 0
  | [], _, f, k => by rw [List.map_nil, cof, if_neg (by simp)]
  | y :: ys, h, f, k => by
    obtain ⟨h1, h2⟩ := List.pairwise_cons.mp h
    rw [List.map_cons, cof, cof_map h2 f k]
    by_cases e : y = k
    · subst e
      have : ¬ y ∈ ys := fun z => by have := h1 y z; omega
      rw [if_pos rfl, if_neg this, if_pos (.head _)]; omega
    · rw [if_neg e]
      by_cases z : k ∈ ys
      · rw [if_pos z, if_pos (.tail _ z)]; omega
      · rw [if_neg z, if_neg fun y' => by
          rcases List.mem_cons.mp y' with y' | y'
          · exact e y'.symm
          · exact z y']; omega
/-- how many steps a division takes -/
def stepsD (ts : Terms) (w : Int) : Nat := match ts.head?, ts.getLast? with | some p, some q => (q.1 - w + 1).toNat + (-p.1).toNat | _, _ => 0
def BG : Nat := 2 ^ 100000
theorem mulG {a b : Int} (ha : a.natAbs < BG) (hb : b.natAbs < BG) : CMulW a b := mulW_of ha hb
theorem one_BG {e : Int} (h : e = 1 ∨ e = -1) : e.natAbs < BG := by rcases h with rfl | rfl <;> (unfold BG; decide +kernel)
/-- small enough to be divided -/
def DivOk (ts ds : Terms) (w : Int) : Prop := ts.length + stepsD ts w * ds.length ≤ 90000 ∧ stepsD ts w ≤ 90000 ∧ ∃ B M : Nat, (∀ k, (cof ts k).natAbs ≤ B) ∧ (∀ k, (cof ds k).natAbs ≤ M) ∧ M < BG ∧ (1 + stepsD ts w) * (B * (1 + M) ^ stepsD ts w) < BG
/-- the powers are small -/
def Near (ts : Terms) : Prop := ∀ p ∈ ts, -10000000 ≤ p.1 ∧ p.1 ≤ 10000000
def spDivision (C : Addr) : Sp := fun vs H Q _ => ∃ a d ts ds w, vs = [.ref a, .ref d] ∧ PolyAt C H a ts ∧ PolyAt C H d ds ∧ DivT ds w ∧ DivOk ts ds w ∧ Near ts ∧ w ≤ 10000000 ∧
  ∀ t q r qs rs H', H t = none → Same H H' → H' t = some (.tup [.ref q, .ref r]) → PolyAt C H' q qs → PolyAt C H' r rs → DivR (cof ts) ds w qs rs → qs.length ≤ stepsD ts w → Sm (cof qs) → Q (.ref t) H'
def spFloor (C : Addr) : Sp := fun vs H Q _ => ∃ a d ts ds w, vs = [.ref a, .ref d] ∧ PolyAt C H a ts ∧ PolyAt C H d ds ∧ DivT ds w ∧ DivOk ts ds w ∧ Near ts ∧ w ≤ 10000000 ∧
  ∀ q qs rs H', Same H H' → PolyAt C H' q qs → DivR (cof ts) ds w qs rs → qs.length ≤ stepsD ts w → Sm (cof qs) → Q (.ref q) H'
def spCheckDiv (C : Addr) : Sp := fun vs H Q _ => ∃ d ds w, vs = [.ref d] ∧ PolyAt C H d ds ∧ DivT ds w ∧ Q .non H
end My

set_option Elab.async false
set_option linter.all false
set_option maxRecDepth 100000
namespace My
/-! ### rows of numbers, from the power 0 on -/
def mulS (w : Nat) (l : List Int) : List Int := List.zipWith (· - ·) l (List.replicate w 0 ++ l)
def divGo (w : Nat) : Nat → List Int → List Int → List Int
  | 0, _, _ => []
  | f + 1, prev, rest => if rest.isEmpty then [] else
    let b := List.zipWith (· + ·) (rest.take w) prev
    b ++ divGo w f b (rest.drop w)
def divS (w : Nat) (l : List Int) : List Int := divGo w (l.length + 1) (List.replicate w 0) l
def signsL (n : Nat) : List (Nat × Bool) := (M11.primes n).foldl (fun s p => s ++ s.map fun q => (q.1 / p, !q.2)) [(n, true)]
def runR (s : List (Nat × Bool)) (row : List Int) : List Int := s.foldl (fun row q => if q.2 then mulS q.1 row else divS q.1 row) row
def row0 (n : Nat) : List Int := 1 :: List.replicate (M11.phi n) 0
def ringL (n : Nat) : List Int := if n = 1 then [-1, 1] else runR (signsL n) (row0 n)
def okRun : List (Nat × Bool) → List Int → Bool
  | [], _ => true
  | q :: r, row => decide (1 ≤ q.1) && (q.2 || (mulS q.1 (divS q.1 row) == row && (divS q.1 row).length == row.length)) && okRun r (if q.2 then mulS q.1 row else divS q.1 row)
def addL : List Int → List Int → List Int
  | [], m => m
  | l, [] => l
  | a :: l, b :: m => (a + b) :: addL l m
def mulL : List Int → List Int → List Int
  | [], _ => []
  | a :: l, m => if a = 0 then 0 :: mulL l m else addL (m.map (a * ·)) (0 :: mulL l m)
def expL (p : Nat) : List Int → List Int
  | [] => []
  | a :: l => a :: (List.replicate (p - 1) 0 ++ expL p l)
def eqPad (l m : List Int) : Bool := (addL l (m.map fun x => -x)).all (· == 0)
def endsOk (n : Nat) : Bool := ((ringL n).getD 0 0 == 1 || (ringL n).getD 0 0 == -1) && ((ringL n).getD (M11.phi n) 0 == 1) && (ringL n).length == M11.phi n + 1 && (ringL n).all fun x => decide (x.natAbs ≤ 9)
def chainOk (n : Nat) : List Nat → Nat → Nat → Bool
  | [], m, wd => decide (1 ≤ wd) && eqPad (expL wd (ringL m)) (ringL n)
  | p :: ps, m, wd => decide (2 ≤ p) && decide (m * p ≤ 210) && decide (1 ≤ m) && endsOk m && eqPad (expL p (ringL m)) (mulL (ringL (m * p)) (ringL m)) && chainOk n ps (m * p) (wd / p)
def okN (n : Nat) : Bool := okRun (signsL n) (row0 n) && endsOk n && chainOk n (M11.primes n) 1 n && (n == 1 || (ringL n).getD 0 0 == 1)
theorem at_all {f : Nat → Bool} {m s n : Nat} (h : (List.range m).all (fun n => f (n + s)) = true) (h1 : s ≤ n) (h2 : n < s + m) : f n = true := by
  have := List.all_eq_true.mp h (n - s) (List.mem_range.mpr (by omega))
  rwa [show n - s + s = n by omega] at this
theorem aN0 : (List.range 30).all (fun n => okN (n + 1)) = true := by decide +kernel
theorem aN1 : (List.range 20).all (fun n => okN (n + 31)) = true := by decide +kernel
theorem aN2 : (List.range 15).all (fun n => okN (n + 51)) = true := by decide +kernel
theorem aN3 : (List.range 12).all (fun n => okN (n + 66)) = true := by decide +kernel
theorem aN4 : (List.range 12).all (fun n => okN (n + 78)) = true := by decide +kernel
theorem aN5 : (List.range 12).all (fun n => okN (n + 90)) = true := by decide +kernel
theorem aN6 : (List.range 12).all (fun n => okN (n + 102)) = true := by decide +kernel
theorem aN7 : (List.range 12).all (fun n => okN (n + 114)) = true := by decide +kernel
theorem aN8 : (List.range 12).all (fun n => okN (n + 126)) = true := by decide +kernel
theorem aN9 : (List.range 12).all (fun n => okN (n + 138)) = true := by decide +kernel
theorem aN10 : (List.range 12).all (fun n => okN (n + 150)) = true := by decide +kernel
theorem aN11 : (List.range 12).all (fun n => okN (n + 162)) = true := by decide +kernel
theorem aN12 : (List.range 12).all (fun n => okN (n + 174)) = true := by decide +kernel
theorem aN13 : (List.range 12).all (fun n => okN (n + 186)) = true := by decide +kernel
theorem aN14 : (List.range 12).all (fun n => okN (n + 198)) = true := by decide +kernel
theorem aN15 : (List.range 1).all (fun n => okN (n + 210)) = true := by decide +kernel
theorem okN_at {n : Nat} (h1 : 1 ≤ n) (h2 : n ≤ 210) : okN n = true := by
  by_cases c0 : n < 31
  · exact at_all aN0 (by omega) (by omega)
  by_cases c1 : n < 51
  · exact at_all aN1 (by omega) (by omega)
  by_cases c2 : n < 66
  · exact at_all aN2 (by omega) (by omega)
  by_cases c3 : n < 78
  · exact at_all aN3 (by omega) (by omega)
  by_cases c4 : n < 90
  · exact at_all aN4 (by omega) (by omega)
  by_cases c5 : n < 102
  · exact at_all aN5 (by omega) (by omega)
  by_cases c6 : n < 114
  · exact at_all aN6 (by omega) (by omega)
  by_cases c7 : n < 126
  · exact at_all aN7 (by omega) (by omega)
  by_cases c8 : n < 138
  · exact at_all aN8 (by omega) (by omega)
  by_cases c9 : n < 150
  · exact at_all aN9 (by omega) (by omega)
  by_cases c10 : n < 162
  · exact at_all aN10 (by omega) (by omega)
  by_cases c11 : n < 174
  · exact at_all aN11 (by omega) (by omega)
  by_cases c12 : n < 186
  · exact at_all aN12 (by omega) (by omega)
  by_cases c13 : n < 198
  · exact at_all aN13 (by omega) (by omega)
  by_cases c14 : n < 210
  · exact at_all aN14 (by omega) (by omega)
  exact at_all aN15 (by omega) (by omega)
end My

set_option Elab.async false
set_option linter.all false
set_option maxRecDepth 100000
namespace My
open PySem PySem.Spec PyProof.Rows L2
def cofL (l : List Int) (k : Int) : Int := if 0 ≤ k then l.getD k.toNat 0 else 0
def termsL (l : List Int) : Terms := (List.range l.length).map fun i => (((i : Nat) : Int), l.getD i 0)
theorem cofL_nil (k : Int) : cofL [] k = 0 := by unfold cofL; split <;> simp
theorem cofL_neg {l : List Int} {k : Int} (h : k < 0) : cofL l k = 0 := if_neg (by omega)
theorem cofL_cons (a : Int) (l : List Int) (k : Int) : cofL (a :: l) k = if k = 0 then a else cofL l (k - 1) := by
  unfold cofL
  by_cases h : 0 ≤ k
  · rw [if_pos h]
    by_cases e : k = 0
    · subst e; rw [if_pos rfl]; rfl
    · rw [if_neg e, if_pos (by omega), show k.toNat = (k - 1).toNat + 1 by omega, List.getD_cons_succ]
  · rw [if_neg h, if_neg (by omega), if_neg (by omega)]
theorem cofL_big {l : List Int} {k : Int} (h : (l.length : Int) ≤ k) : cofL l k = 0 := by
  unfold cofL
  rw [if_pos (by omega), List.getD_eq_getElem?_getD, List.getElem?_eq_none (by omega)]
  rfl
theorem termsL_cons (a : Int) (l : List Int) : termsL (a :: l) = (0, a) :: shiftT 1 (termsL l) := by
  unfold termsL shiftT
  rw [List.length_cons, List.range_succ_eq_map, List.map_cons, List.map_map, List.map_map]
  congr 1
theorem termsL_length (l : List Int) : (termsL l).length = l.length := by unfold termsL; rw [List.length_map, List.length_range]
theorem cof_termsL : ∀ (l : List Int) (k : Int), cof (termsL l) k = cofL l k
  | [], k => by rw [cofL_nil]; rfl
  | a :: l, k => by
    rw [termsL_cons, cof, cof_shift, cof_termsL l, cofL_cons]
    show (if 0 = k then a else 0) + _ = _
    by_cases e : k = 0
    · subst e; rw [if_pos rfl, if_pos rfl, cofL_neg (by omega)]; omega
    · rw [if_neg (fun z => e z.symm), if_neg e]; omega
theorem cmul_termsL_cons (a : Int) (l : List Int) (d : Int → Int) (k : Int) : cmul (termsL (a :: l)) d k = a * d k + cmul (termsL l) d (k - 1) := by
  rw [termsL_cons, cmul, cmul_shift]
  show a * d (k - 0) + _ = _
  rw [Int.sub_zero]
theorem cofL_addL : ∀ (l m : List Int) (k : Int), cofL (addL l m) k = cofL l k + cofL m k
  | [], m, k => by rw [addL, cofL_nil]; omega
  | a :: l, [], k => by rw [addL, cofL_nil]; omega; simp
  | a :: l, b :: m, k => by
    rw [addL, cofL_cons, cofL_cons, cofL_cons, cofL_addL l m]
    split <;> omega
theorem cofL_map (f : Int → Int) (h : f 0 = 0) : ∀ (l : List Int) (k : Int), cofL (l.map f) k = f (cofL l k)
  | [], k => by rw [List.map_nil, cofL_nil, h]
  | a :: l, k => by
    rw [List.map_cons, cofL_cons, cofL_cons, cofL_map f h l]
    split <;> rfl
theorem cofL_zcons (l : List Int) (k : Int) : cofL (0 :: l) k = cofL l (k - 1) := by
  rw [cofL_cons]
  by_cases e : k = 0
  · rw [if_pos e, cofL_neg (by omega)]
  · rw [if_neg e]
theorem cofL_mulL : ∀ (l m : List Int) (k : Int), cofL (mulL l m) k = cmul (termsL l) (cofL m) k
  | [], m, k => by rw [mulL, cofL_nil]; rfl
  | a :: l, m, k => by
    rw [mulL, cmul_termsL_cons]
    by_cases e : a = 0
    · rw [if_pos e, e, cofL_zcons, cofL_mulL l m]; omega
    · rw [if_neg e, cofL_addL, cofL_map _ (by simp), cofL_zcons, cofL_mulL l m]
theorem cofL_rep (n : Nat) (l : List Int) : ∀ k : Int, cofL (List.replicate n 0 ++ l) k = cofL l (k - n) := by
  induction n with
  | zero => intro k; simp
  | succ n ih =>
    intro k
    rw [List.replicate_succ, List.cons_append, cofL_zcons, ih]
    congr 1
    omega
theorem cofL_zeros : ∀ {l : List Int}, l.all (· == 0) = true → ∀ k, cofL l k = 0
  | [], _, k => cofL_nil k
  | a :: l, h, k => by
    rw [List.all_cons, Bool.and_eq_true, beq_iff_eq] at h
    rw [cofL_cons, h.1, cofL_zeros h.2]
    split <;> rfl
theorem eqPad_ok {l m : List Int} (h : eqPad l m = true) (k : Int) : cofL l k = cofL m k := by
  have := cofL_zeros h k
  rw [cofL_addL, cofL_map _ (by simp)] at this
  omega
def mulP (p : Int) (ts : Terms) : Terms := ts.map fun q => (q.1 * p, q.2)
theorem mul_emod_zero {p k j : Int} (h : 1 ≤ p) : j * p = k ↔ k % p = 0 ∧ j = k / p := by
  constructor
  · rintro rfl
    exact ⟨Int.mul_emod_left _ _, (Int.mul_ediv_cancel _ (by omega)).symm⟩
  · rintro ⟨a, rfl⟩
    have := Int.mul_ediv_add_emod k p
    rw [Int.mul_comm] at this
    omega
theorem cof_mulP {p : Int} (h : 1 ≤ p) : ∀ (ts : Terms) (k : Int), cof (mulP p ts) k = if k % p = 0 then cof ts (k / p) else 0
  | [], k => by
    show (0 : Int) = if k % p = 0 then 0 else 0
    split <;> rfl
  | q :: ts, k => by
    show (if q.1 * p = k then q.2 else 0) + cof (mulP p ts) k = if k % p = 0 then (if q.1 = k / p then q.2 else 0) + cof ts (k / p) else 0
    rw [cof_mulP h ts k]
    by_cases e : k % p = 0
    · rw [if_pos e, if_pos e]
      by_cases e2 : q.1 = k / p
      · rw [if_pos e2, if_pos ((mul_emod_zero h).mpr ⟨e, e2⟩)]
      · rw [if_neg e2, if_neg fun z => e2 ((mul_emod_zero h).mp z).2]
    · rw [if_neg e, if_neg e, if_neg fun z => e ((mul_emod_zero h).mp z).1]; omega
theorem cofL_expL {p : Nat} (h : 1 ≤ p) : ∀ (l : List Int) (k : Int), cofL (expL p l) k = if k % (p : Int) = 0 then cofL l (k / p) else 0
  | [], k => by
    rw [expL, cofL_nil, cofL_nil]
    split <;> rfl
  | a :: l, k => by
    rw [expL, cofL_cons, cofL_rep, cofL_expL h l]
    have e1 : k - 1 - ((p - 1 : Nat) : Int) = k + p * (-1) := by rw [Int.mul_neg_one]; omega
    rw [e1, Int.add_mul_emod_self_left, Int.add_mul_ediv_left _ _ (by omega)]
    by_cases e : k = 0
    · subst e
      rw [if_pos rfl, if_pos (Int.zero_emod _), Int.zero_ediv, cofL_cons, if_pos rfl]
    · rw [if_neg e]
      by_cases e2 : k % (p : Int) = 0
      · rw [if_pos e2, if_pos e2, cofL_cons]
        have : k / (p : Int) ≠ 0 := fun z => by
          have := Int.mul_ediv_add_emod k p
          rw [z, e2] at this
          omega
        rw [if_neg this, show k / (p : Int) + -1 = k / p - 1 by omega]
      · rw [if_neg e2, if_neg e2]
/-! ### the rows of the ring polynomials -/
theorem phi_le' (n : Nat) : M11.phi n ≤ n := M11.phi_le n
structure RingF (n : Nat) : Prop where
  e0 : cofL (ringL n) 0 = 1 ∨ cofL (ringL n) 0 = -1
  ew : cofL (ringL n) (M11.phi n) = 1
  len : (ringL n).length = M11.phi n + 1
  bd : ∀ k, (cofL (ringL n) k).natAbs ≤ 9
theorem ringF_of {n : Nat} (h : endsOk n = true) : RingF n := by
  unfold endsOk at h
  simp only [Bool.and_eq_true, Bool.or_eq_true, beq_iff_eq] at h
  obtain ⟨⟨⟨a, b⟩, c⟩, d⟩ := h
  refine ⟨a, b, c, fun k => ?_⟩
  by_cases e : cofL (ringL n) k = 0
  · rw [e]; decide
  · have k0 : 0 ≤ k := Int.not_lt.mp fun z => e (cofL_neg z)
    have kl : k < ((ringL n).length : Nat) := Int.not_le.mp fun z => e (cofL_big z)
    unfold cofL
    rw [if_pos k0, List.getD_eq_getElem?_getD, List.getElem?_eq_getElem (by omega)]
    exact of_decide_eq_true (List.all_eq_true.mp d _ (List.getElem_mem _))
theorem ringF {n : Nat} (h1 : 1 ≤ n) (h2 : n ≤ 210) : RingF n := by
  have := okN_at h1 h2
  unfold okN at this
  simp only [Bool.and_eq_true] at this
  exact ringF_of this.1.1.2
theorem DivT.of {ts : Terms} {w : Int} (hc : Canon ts) (h0 : cof ts 0 = 1 ∨ cof ts 0 = -1) (hw : cof ts w = 1 ∨ cof ts w = -1) (lo : ∀ k, k < 0 → cof ts k = 0) (hi : ∀ k, w < k → cof ts k = 0) : DivT ts w := by
  have m0 : (0 : Int) ∈ ts.map (·.1) := supp_mem (by rcases h0 with e | e <;> rw [e] <;> decide)
  have mw : w ∈ ts.map (·.1) := supp_mem (by rcases hw with e | e <;> rw [e] <;> decide)
  have ne : ts ≠ [] := by rintro rfl; cases m0
  have low : ∀ p ∈ ts, 0 ≤ p.1 := fun p hp => Int.not_lt.mp fun z => hc.nz p hp (by rw [← hc.at hp]; exact lo _ z)
  have high : ∀ p ∈ ts, p.1 ≤ w := fun p hp => Int.not_lt.mp fun z => hc.nz p hp (by rw [← hc.at hp]; exact hi _ z)
  refine ⟨hc, ?_, ?_⟩
  · cases hh : ts.head? with
    | none => exact absurd (List.head?_eq_none_iff.mp hh) ne
    | some p =>
      have pm := mem_head hh
      have p0 : p.1 = 0 := by
        refine Decidable.byContradiction fun z => ?_
        have := low p pm
        have := hc.low' hh (k := 0) (by omega)
        rcases h0 with e | e <;> omega
      refine ⟨p.2, ?_, ?_⟩
      · rw [← p0]
      · rw [← hc.at pm, p0]; exact h0
  · cases hh : ts.getLast? with
    | none => exact absurd (List.getLast?_eq_none_iff.mp hh) ne
    | some p =>
      have pm := List.mem_of_getLast? hh
      have p0 : p.1 = w := by
        refine Decidable.byContradiction fun z => ?_
        have := high p pm
        have := hc.high hh (k := w) (by omega)
        rcases hw with e | e <;> omega
      refine ⟨p.2, ?_, ?_⟩
      · rw [← p0]
      · rw [← hc.at pm, p0]; exact hw
theorem ring_divT {n : Nat} {ts : Terms} (R : RingF n) (hc : Canon ts) (e : ∀ k, cof ts k = cofL (ringL n) k) : DivT ts (M11.phi n) :=
  .of hc (by rw [e]; exact R.e0) (by rw [e]; exact .inl R.ew) (fun k hk => by rw [e]; exact cofL_neg hk) (fun k hk => by rw [e]; exact cofL_big (by rw [R.len]; omega))
/-- a polynomial within 0 .. N may be divided by such a row -/
theorem steps_le {ts : Terms} {w : Int} {N : Nat} (hc : Canon ts) (w0 : 0 ≤ w) (s : ∀ k, cof ts k ≠ 0 → 0 ≤ k ∧ k ≤ N) : stepsD ts w ≤ N + 1 := by
  unfold stepsD
  cases h : ts.head? with
  | none => exact Nat.zero_le _
  | some p =>
    cases h' : ts.getLast? with
    | none => exact Nat.zero_le _
    | some q =>
      have h1 := s p.1 (by rw [hc.at (mem_head h)]; exact hc.nz p (mem_head h))
      have h2 := s q.1 (by rw [hc.at (List.mem_of_getLast? h')]; exact hc.nz q (List.mem_of_getLast? h'))
      show (q.1 - w + 1).toNat + (-p.1).toNat ≤ N + 1
      omega
theorem near_of {ts : Terms} {N : Nat} (hc : Canon ts) (s : ∀ k, cof ts k ≠ 0 → 0 ≤ k ∧ k ≤ N) (hN : N ≤ 10000000) : Near ts := fun p hp => by
  have := s p.1 (by rw [hc.at hp]; exact hc.nz p hp)
  omega
theorem canon_len {ts : Terms} {N : Nat} (hc : Canon ts) (s : ∀ k, cof ts k ≠ 0 → 0 ≤ k ∧ k ≤ N) : ts.length ≤ N + 1 := by
  have : ts.length ≤ ((List.range (N + 1)).map fun i => (((i : Nat) : Int), (0 : Int))).length := hc.le_len fun p hp => by
    have := s p.1 (by rw [hc.at hp]; exact hc.nz p hp)
    rw [List.map_map]
    exact List.mem_map.mpr ⟨p.1.toNat, List.mem_range.mpr (by omega), show ((p.1.toNat : Nat) : Int) = p.1 by omega⟩
  rwa [List.length_map, List.length_range] at this
theorem divOk_ring {ts ds : Terms} {w : Int} {N B : Nat} (hc : Canon ts) (hd : Canon ds) (w0 : 0 ≤ w) (s : ∀ k, cof ts k ≠ 0 → 0 ≤ k ∧ k ≤ N) (hN : N ≤ 280) (b1 : ∀ k, (cof ts k).natAbs ≤ B) (hB : B ≤ 10 ^ 1000) (b2 : ∀ k, (cof ds k).natAbs ≤ 9) (sd : ∀ k, cof ds k ≠ 0 → 0 ≤ k ∧ k ≤ (280 : Nat)) : DivOk ts ds w := by
  have l1 := canon_len hc s
  have l2 := canon_len hd sd
  have l3 := steps_le hc w0 s
  have l4 : stepsD ts w * ds.length ≤ 281 * 281 := Nat.mul_le_mul (by omega) (by omega)
  refine ⟨by omega, by omega, B, 9, b1, b2, by unfold BG; exact Nat.lt_of_lt_of_le (by decide : 9 < 2 ^ 4) (Nat.pow_le_pow_right (by decide) (by decide)), ?_⟩
  refine Nat.lt_of_le_of_lt (Nat.mul_le_mul (by omega : 1 + stepsD ts w ≤ 282) (Nat.mul_le_mul hB (Nat.pow_le_pow_right (by decide) (by omega : stepsD ts w ≤ 281)))) ?_
  unfold BG
  decide +kernel
end My

set_option Elab.async false
set_option linter.all false
set_option maxRecDepth 100000
namespace My
open PySem PySem.Spec PyProof.Rows L2
/-! ### a folded row of zeros: no less than phi wide -/
def PrimeI (L : Int) : Prop := 2 ≤ L ∧ ∀ a b : Int, L ∣ a * b → L ∣ a ∨ L ∣ b
/-! polynomials as lists, from the power 0 on -/
/-! powers of a root -/
section
variable {L r : Int} {n : Nat}
theorem pow_root (h : L ∣ r ^ n - 1) (m : Nat) : L ∣ r ^ (n + m) - r ^ m := by
  obtain ⟨u, hu⟩ := h
  exact ⟨u * r ^ m, by rw [Int.pow_add, show r ^ n = L * u + 1 by omega]; grind⟩
theorem pow_red (h : L ∣ r ^ n - 1) (n1 : 1 ≤ n) : ∀ (q m : Nat), L ∣ r ^ (n * q + m) - r ^ m
  | 0, m => by rw [Nat.mul_zero, Nat.zero_add, Int.sub_self]; exact Int.dvd_zero _
  | q + 1, m => by
    have h1 := pow_red h n1 q m
    have h2 := pow_root h (n * q + m)
    rw [show n * (q + 1) + m = n + (n * q + m) by rw [Nat.mul_add]; omega]
    have := Int.dvd_add h2 h1
    rwa [show r ^ (n + (n * q + m)) - r ^ (n * q + m) + (r ^ (n * q + m) - r ^ m) = r ^ (n + (n * q + m)) - r ^ m by omega] at this
end
theorem sumT_congr {f g : Int → Int} : ∀ {ts : Terms}, (∀ p ∈ ts, f p.1 = g p.1) → sumT f ts = sumT g ts
  | [], _ => rfl
  | p :: ts, h => by rw [sumT, sumT, h p (.head _), sumT_congr fun q hq => h q (.tail _ hq)]
theorem sumT_map (f : Int → Int) (m : Int → Int) (s : Int) : ∀ ts : Terms, sumT f (ts.map fun q => (m q.1, s * q.2)) = s * sumT (fun k => f (m k)) ts
  | [] => by simp [sumT]
  | p :: ts => by rw [List.map_cons, sumT, sumT, sumT_map f m s ts]; grind
/-! the fold, on terms -/
def tStep (n s : Nat) (ts : Terms) : Terms := ts ++ ts.map fun q => ((q.1 - s) % (n : Int), -1 * q.2)
def InN (n : Nat) (ts : Terms) : Prop := ∀ p ∈ ts, 0 ≤ p.1 ∧ p.1 < n
theorem InN.step {n : Nat} (n1 : 1 ≤ n) {ts : Terms} (h : InN n ts) (s : Nat) : InN n (tStep n s ts) := fun p hp => by
  rcases List.mem_append.mp hp with hp | hp
  · exact h p hp
  · obtain ⟨q, _, rfl⟩ := List.mem_map.mp hp
    exact ⟨Int.emod_nonneg _ (by omega), Int.emod_lt_of_pos _ (by omega)⟩
theorem InN.fold {n : Nat} (n1 : 1 ≤ n) (ts : Terms) : InN n (foldT n ts) := fun p hp => by
  obtain ⟨q, _, rfl⟩ := List.mem_map.mp hp
  exact ⟨Int.emod_nonneg _ (by omega), Int.emod_lt_of_pos _ (by omega)⟩
section
variable {L r : Int} {n : Nat}
end
/-! ### the certificate of an order -/
/-- a prime and an element of this order -/
structure Cert (n : Nat) (L g : Int) : Prop where
  P : PrimeI L
  one : L ∣ g ^ n - 1
  not : ∀ m : Nat, 0 < m → m < n → ¬ L ∣ g ^ m - 1
section
variable {n : Nat} {L g : Int}
theorem Cert.pow (c : Cert n L g) (n1 : 1 ≤ n) (j : Nat) : L ∣ (g ^ j) ^ n - 1 := by
  rw [← Int.pow_mul, Nat.mul_comm]
  have := pow_red c.one n1 j 0
  rw [Nat.add_zero, Int.pow_zero] at this
  exact this
theorem Cert.unit (c : Cert n L g) (n1 : 1 ≤ n) (i : Nat) : ¬ L ∣ g ^ i := fun h => by
  obtain ⟨u, hu⟩ := h
  obtain ⟨v, hv⟩ := c.pow n1 i
  obtain ⟨m, rfl⟩ : ∃ m, n = m + 1 := ⟨n - 1, by omega⟩
  rw [Int.pow_succ] at hv
  have : L ∣ 1 := ⟨(g ^ i) ^ m * u - v, by
    generalize (g ^ i) ^ m = x at *
    generalize g ^ i = y at *
    subst hu
    grind⟩
  have := Int.le_of_dvd (by decide) this
  have := c.P.1
  omega
theorem Cert.apart (c : Cert n L g) (n1 : 1 ≤ n) {i j : Nat} (h : i < j) (hj : j < n) : ¬ L ∣ g ^ i - g ^ j := fun hd => by
  have e : g ^ i - g ^ j = -(g ^ i * (g ^ (j - i) - 1)) := by
    have : g ^ j = g ^ i * g ^ (j - i) := by rw [← Int.pow_add]; congr 1; omega
    rw [this]
    grind
  rw [e] at hd
  rcases c.P.2 _ _ (Int.dvd_neg.mp hd) with z | z
  · exact c.unit n1 i z
  · exact c.not (j - i) (by omega) (by omega) z
end
end My

set_option Elab.async false
set_option linter.all false
set_option maxRecDepth 100000
set_option maxHeartbeats 2000000
namespace My
open PySem PySem.Spec PyProof.Rows L2
/-! ### max(d), d a dict of int keys -/
/-- the greatest power of a jar -/
def JarMax (H : Hp) (a : Addr) (w : Int) : Prop := ∃ kvs : List (Key × V), H a = some (.dK kvs) ∧ JarK kvs ∧ Sum.inl w ∈ kvs.map (·.1) ∧ ∀ p ∈ kvs, ∃ k : Int, p.1 = Sum.inl k ∧ k ≤ w
theorem JarMax.same {H H' : Hp} {a : Addr} {w : Int} (h : JarMax H a w) (s : Same H H') : JarMax H' a w := let ⟨kvs, e, r⟩ := h; ⟨kvs, s _ _ e, r⟩
theorem JarIn.max {H : Hp} {a : Addr} {lo w : Int} {c : Int → Int} (h : JarIn H a lo w c) (nz : c w ≠ 0) : JarMax H a w := by
  obtain ⟨kvs, e, hk, hb, hc⟩ := h
  refine ⟨kvs, e, hk, ?_, fun p hp => let ⟨k, e1, _, e2⟩ := hb p hp; ⟨k, e1, e2⟩⟩
  refine Classical.byContradiction fun z => nz ?_
  rw [← hc]
  unfold cfK
  cases hv : valV kvs (Sum.inl w) with
  | none => rfl
  | some v => exact absurd (List.mem_map.mpr ⟨_, val_mem hv, rfl⟩) z
end My

set_option Elab.async false
set_option linter.all false
set_option maxRecDepth 100000
namespace My
open PySem PySem.Spec PyProof.Rows L2
/-! ### jars whose keys are told -/
def JarS (H : Hp) (a : Addr) (n : Nat) (S : Int → Prop) (c : Int → Int) : Prop := ∃ kvs, H a = some (.dK kvs) ∧ JarK kvs ∧ kvs.length ≤ n ∧ (∀ p ∈ kvs, ∃ k : Int, p.1 = Sum.inl k ∧ S k) ∧ ∀ k, cfK kvs k = c k
section
variable {H H' : Hp} {a p b : Addr} {n : Nat} {S T : Int → Prop} {c d : Int → Int} {o : HO}
theorem JarS.new {H : Hp} : JarS (upd H p (.dK [])) p 0 S fun _ => 0 := ⟨[], upd_same, .nil, Nat.le_refl _, fun _ h => absurd h (by simp), fun _ => rfl⟩
theorem JarS.same (h : JarS H a n S c) (s : Same H H') : JarS H' a n S c := let ⟨kvs, e, r⟩ := h; ⟨kvs, s _ _ e, r⟩
theorem JarS.but (h : JarS H a n S c) (ne : a ≠ b) (s : But b H H') : JarS H' a n S c := let ⟨kvs, e, r⟩ := h; ⟨kvs, s _ _ ne e, r⟩
theorem JarS.upd (h : JarS H a n S c) (ne : a ≠ b) : JarS (upd H b o) a n S c := let ⟨kvs, e, r⟩ := h; ⟨kvs, (upd_ne ne).trans e, r⟩
theorem JarS.ext (h : JarS H a n S c) (e : ∀ k, c k = d k) : JarS H a n S d := let ⟨kvs, e1, r1, r2, r3, r4⟩ := h; ⟨kvs, e1, r1, r2, r3, fun k => (r4 k).trans (e k)⟩
theorem JarS.mono {m : Nat} (h : JarS H a n S c) (l : n ≤ m) : JarS H a m S c := let ⟨kvs, e1, r1, r2, r3⟩ := h; ⟨kvs, e1, r1, Nat.le_trans r2 l, r3⟩
theorem JarS.wide (h : JarS H a n S c) (s : ∀ k, S k → T k) : JarS H a n T c := let ⟨kvs, e1, r1, r2, r3, r4⟩ := h; ⟨kvs, e1, r1, r2, fun p hp => let ⟨k, e, q⟩ := r3 p hp; ⟨k, e, s k q⟩, r4⟩
theorem JarS.at (h : JarS H a n S c) : JarAt H a n c := let ⟨kvs, e, r1, r2, _, r4⟩ := h; ⟨kvs, e, r1, r2, r4⟩
theorem JarS.in {lo hi : Int} (h : JarS H a n S c) (s : ∀ k, S k → lo ≤ k ∧ k ≤ hi) : JarIn H a lo hi c := let ⟨kvs, e, r1, _, r3, r4⟩ := h; ⟨kvs, e, r1, fun p hp => let ⟨k, e, q⟩ := r3 p hp; ⟨k, e, s k q⟩, r4⟩
theorem JarS.isD {R : Addr → Prop} (h : JarS H a n S c) (q : R a) : ∃ b, V.ref a = .ref b ∧ IsD H b ∧ R b := h.at.isD q
theorem JarS.dget0 (h : JarS H a n S c) (k : Int) : ∃ o, DGet H a (.int k) o ∧ o.getD (.int 0) = .int (c k) := h.at.dget0 k
theorem JarS.dput {k v : Int} (h : JarS H a n S c) (s : S k) (hn : n ≤ 1000000) : ∃ H', DPut H a (.int k) (.int v) H' ∧ But a H H' ∧ (∀ p, H p = none → p ≠ a → H' p = none) ∧ JarS H' a (n + 1) S (addAt c k v) := by
  obtain ⟨kvs, e, hk, hl, hb, hc⟩ := h
  refine ⟨_, DPut.k (k := .inl k) e (Nat.lt_of_le_of_lt (Nat.le_trans hl hn) (by decide)), But.self (But.refl a H), fun p hp np => (upd_ne np).trans hp, _, upd_same, hk.put k v, ?_, fun q hq => ?_, fun j => ?_⟩
  · exact Nat.le_trans (length_putK _ _ _) (by omega)
  · rcases mem_put hq with hq | rfl
    · exact hb q hq
    · exact ⟨k, rfl, s⟩
  · rw [cfK_put, hc]; rfl
theorem JarS.supp (h : JarS H a n S c) {k : Int} (hk : c k ≠ 0) : S k := by
  obtain ⟨kvs, e, hj, hl, hb, hc⟩ := h
  rw [← hc] at hk
  unfold cfK at hk
  cases hv : valV kvs (Sum.inl k) with
  | none => rw [hv] at hk; exact absurd rfl hk
  | some v =>
    obtain ⟨k', e', s⟩ := hb _ (val_mem hv)
    cases e'
    exact s
theorem JarS.free (h : JarS H a n S c) (q : H p = none) : p ≠ a := h.at.ne q
end
theorem JarIn.s {H : Hp} {a : Addr} {lo hi : Int} {c : Int → Int} (h : JarIn H a lo hi c) : JarS H a (hi - lo + 1).toNat (fun k => lo ≤ k ∧ k ≤ hi) c := by
  obtain ⟨kvs, e, hk, hl, hc⟩ := h.at
  obtain ⟨kvs', e', hk', hb, hc'⟩ := h
  cases e.symm.trans e'
  exact ⟨kvs, e, hk, hl, hb, hc⟩
/-! ### the numbers of a divisor -/
structure DivC (c : Int → Int) (w : Int) (M : Nat) : Prop where
  w0 : 0 ≤ w
  e0 : c 0 = 1 ∨ c 0 = -1
  ew : c w = 1 ∨ c w = -1
  low : ∀ k, k < 0 → c k = 0
  high : ∀ k, w < k → c k = 0
  bd : ∀ k, (c k).natAbs ≤ M
theorem DivC.mono {c : Int → Int} {w : Int} {M N : Nat} (h : DivC c w M) (l : M ≤ N) : DivC c w N := ⟨h.w0, h.e0, h.ew, h.low, h.high, fun k => Nat.le_trans (h.bd k) l⟩
theorem DivC.divT {c : Int → Int} {w : Int} {M : Nat} {ds : Terms} (h : DivC c w M) (hc : Canon ds) (e : ∀ k, cof ds k = c k) : DivT ds w := by
  have m0 : (0 : Int) ∈ ds.map (·.1) := supp_mem (by rw [e]; rcases h.e0 with e | e <;> rw [e] <;> decide)
  have mw : w ∈ ds.map (·.1) := supp_mem (by rw [e]; rcases h.ew with e | e <;> rw [e] <;> decide)
  have ne : ds ≠ [] := by rintro rfl; cases m0
  have low : ∀ p ∈ ds, 0 ≤ p.1 := fun p hp => Int.not_lt.mp fun z => hc.nz p hp (by rw [← hc.at hp, e]; exact h.low _ z)
  have high : ∀ p ∈ ds, p.1 ≤ w := fun p hp => Int.not_lt.mp fun z => hc.nz p hp (by rw [← hc.at hp, e]; exact h.high _ z)
  refine ⟨hc, ?_, ?_⟩
  · cases hh : ds.head? with
    | none => exact absurd (List.head?_eq_none_iff.mp hh) ne
    | some p =>
      have pm := mem_head hh
      have p0 : p.1 = 0 := by
        refine Decidable.byContradiction fun z => ?_
        have := low p pm
        have := hc.low' hh (k := 0) (by omega)
        rw [e] at this
        rcases h.e0 with e | e <;> omega
      refine ⟨p.2, ?_, ?_⟩
      · rw [← p0]
      · rw [← hc.at pm, p0, e]; exact h.e0
  · cases hh : ds.getLast? with
    | none => exact absurd (List.getLast?_eq_none_iff.mp hh) ne
    | some p =>
      have pm := List.mem_of_getLast? hh
      have p0 : p.1 = w := by
        refine Decidable.byContradiction fun z => ?_
        have := high p pm
        have := hc.high hh (k := w) (by omega)
        rw [e] at this
        rcases h.ew with e | e <;> omega
      refine ⟨p.2, ?_, ?_⟩
      · rw [← p0]
      · rw [← hc.at pm, p0, e]; exact h.ew
/-- a divisor of the law: the polynomial, its dict -/
def BaseAt (C : Addr) (H : Hp) (r j : Addr) (w : Int) (c : Int → Int) (M : Nat) : Prop := (∃ ds, PolyAt C H r ds ∧ ∀ k, cof ds k = c k) ∧ JarIn H j 0 w c ∧ DivC c w M
theorem BaseAt.same {C : Addr} {H H' : Hp} {r j : Addr} {w : Int} {c : Int → Int} {M : Nat} (h : BaseAt C H r j w c M) (s : Same H H') : BaseAt C H' r j w c M := let ⟨⟨ds, a, b⟩, j, d⟩ := h; ⟨⟨ds, a.same s, b⟩, j.same s, d⟩
theorem JarIn.but {H H' : Hp} {a b : Addr} {lo hi : Int} {c : Int → Int} (h : JarIn H a lo hi c) (ne : a ≠ b) (s : But b H H') : JarIn H' a lo hi c := let ⟨kvs, e, r⟩ := h; ⟨kvs, s _ _ ne e, r⟩
theorem JarIn.nb {H : Hp} {a b : Addr} {lo hi : Int} {c : Int → Int} (h : JarIn H a lo hi c) (g : Bag H b) : a ≠ b := by
  obtain ⟨kvs, e, _⟩ := h
  obtain ⟨x, y, z, e', _⟩ := g
  rintro rfl
  rw [e] at e'
  cases e'
theorem BaseAt.but {C : Addr} {H H' : Hp} {r j b : Addr} {w : Int} {c : Int → Int} {M : Nat} (h : BaseAt C H r j w c M) (g : Bag H b) (s : But b H H') : BaseAt C H' r j w c M := let ⟨⟨ds, a, e⟩, j, d⟩ := h; ⟨⟨ds, a.stay (Stay.bag s g), e⟩, j.but (j.nb g) s, d⟩
/-- the tuple of a quotient and a rest -/
def Parts (C : Addr) (H : Hp) (t : Addr) (qs rs : Terms) : Prop := ∃ q r, H t = some (.tup [.ref q, .ref r]) ∧ PolyAt C H q qs ∧ PolyAt C H r rs
theorem Parts.same {C : Addr} {H H' : Hp} {t : Addr} {qs rs : Terms} (h : Parts C H t qs rs) (s : Same H H') : Parts C H' t qs rs := let ⟨q, r, a, b, c⟩ := h; ⟨q, r, s _ _ a, b.same s, c.same s⟩
end My

set_option Elab.async false
set_option linter.all false
set_option maxRecDepth 100000
namespace My
open PySem PySem.Spec PyProof.Rows L2
/-! ### o.m(k = v, ..), C(k = v, ..): all by name -/
structure KB1 (K : PySem.W.Frag) (fd : FuncData) (ps ks : List Str) : Prop where
  to : ∀ (s : Shared) (u : Value) (ws : List Value), K.In s.heap → ws.length = ks.length → BindsTo s fd ⟨[u], ks.zip ws⟩ (ps.zip (u :: ws))
section
variable {X : Cx} {C f : Addr} {fd : FuncData} {m x : Str} {k : Nat} {ps ks : List Str} {sp : Sp} {o : Expr} {kws : List Keyword} {p pos apos : Pos} {ta : TE} {tk : TA}
end
end My

set_option Elab.async false
set_option linter.all false
set_option maxRecDepth 100000
set_option maxHeartbeats 2000000
namespace My
open PySem PySem.Spec PyProof.Rows L2
/-! ### C(..) whose __init__ may raise -/
structure HasCX (P : Program) (w : World) (K : PySem.W.Frag) (mg : Str → Option Value) (base : Heap) (x : Str) (C : Addr) (k : Nat) (ps ks : List Str) (sp : Sp) : Prop where
  ex : ∃ f fd, FnOk P w K mg base (L2.CX P w) k f fd ps sp ∧ Mk K C f ∧ mg x = some (.ref C) ∧ Binds K fd ps [] ∧ KB1 K fd ps ks
theorem HasCX.calm {P : Program} {w : World} {K : PySem.W.Frag} {mg : Str → Option Value} {base : Heap} {x : Str} {C : Addr} {k : Nat} {ps ks : List Str} {sp : Sp} (h : HasCX P w K mg base x C k ps ks sp) : HasC P w K mg base x C k ps (fun vs H Q _ => sp vs H Q E0) := by
  obtain ⟨f, fd, F, a, b, c, _⟩ := h.ex
  exact ⟨f, fd, fnOk_calm F, a, b, c⟩
theorem HasC.imp {P : Program} {w : World} {K : PySem.W.Frag} {mg : Str → Option Value} {base : Heap} {x : Str} {C : Addr} {k : Nat} {ps : List Str} {sp sp' : Sp} (h : HasC P w K mg base x C k ps sp) (i : ∀ vs H Q E, sp' vs H Q E → sp vs H Q E) : HasC P w K mg base x C k ps sp' := by
  obtain ⟨f, fd, F, a, b, c⟩ := h.ex
  exact ⟨f, fd, F.imp i, a, b, c⟩
def tMakeX (C : Addr) (sp : Sp) (W : WX) (t : TA) : TE := fun σ H Q => t σ H fun vs H1 => ∀ x dx, H1 x = none → H1 dx = none → dx ≠ x → sp (.ref x :: vs) (upd (upd H1 dx (.own x)) x (.ins C dx [])) (fun v H2 => v = .non ∧ Q (.ref x) H2) (WE W σ)
section
variable {X : Cx} {C f : Addr} {fd : FuncData} {x : Str} {k : Nat} {ps ks : List Str} {sp : Sp} {e : Expr} {es : List Expr} {kws : List Keyword} {p pos : Pos} {t tk : TA} {W : WX} {σ : L2.St} {H : Hp} {Q : VK}
theorem r_makeX (q : t σ H fun vs H1 => ∀ x dx, H1 x = none → H1 dx = none → dx ≠ x → sp (.ref x :: vs) (upd (upd H1 dx (.own x)) x (.ins C dx [])) (fun v H2 => v = .non ∧ Q (.ref x) H2) (WE W σ)) : tMakeX C sp W t σ H Q := q
end
/-! ### values that are no terms, no lists of terms -/
section
variable {K : PySem.W.Frag} {H H' : Hp} {v : V}
/-- of a type that is not T -/
def NotTy (K : PySem.W.Frag) (T : String) (H : Hp) (v : V) : Prop := ∃ t, TyE K H v t ∧ PySem.W.kitOne K t (.type T) = some false
def NotTerm (K : PySem.W.Frag) (H : Hp) (v : V) : Prop := NotTy K "tuple" H v ∨ ∃ p xs, v = .ref p ∧ H p = some (.tup xs) ∧ (xs.length ≠ 2 ∧ xs.length ≤ 1000 ∨ ∃ x y, xs = [x, y] ∧ (NotInt K H x ∨ ∃ i, x = .int i ∧ NotInt K H y))
def IsTerm (H : Hp) (v : V) : Prop := ∃ p x y, v = .ref p ∧ H p = some (.tup [.int x, .int y])
def BadList (K : PySem.W.Frag) (H : Hp) (v : V) : Prop := NotTy K "list" H v ∨ ∃ l xs, v = .ref l ∧ H l = some (.lst xs) ∧ xs.length ≤ 1000 ∧ (∀ x ∈ xs, (∀ H', Same H H' → NotTerm K H' x) ∨ IsTerm H x) ∧ ∃ x ∈ xs, ∀ H', Same H H' → NotTerm K H' x
end
end My

set_option Elab.async false
set_option linter.all false
set_option maxRecDepth 100000
set_option maxHeartbeats 2000000
namespace My
open PySem PySem.Spec PyProof.Rows L2
section
variable {K : PySem.W.Frag} {mg : Str → Option Value} {C : Addr} {H H' : Hp} {b p q l D : Addr} {x y v : V} {xs : List V}
theorem nb_tup (hb : Bag H b) (h : H p = some (.tup xs)) : p ≠ b := by
  rintro rfl
  obtain ⟨_, _, _, e, _⟩ := hb
  rw [h] at e; cases e
theorem nb_lst (hb : Bag H b) (h : H p = some (.lst xs)) (n : xs.length ≠ 3) : p ≠ b := by
  rintro rfl
  obtain ⟨_, _, _, e, _⟩ := hb
  rw [h] at e; cases e; exact n rfl
theorem nb_exo {c : Value} (hb : Bag H b) (h : H p = some (ExO c p)) : p ≠ b := by
  rintro rfl
  obtain ⟨_, _, _, e, _⟩ := hb
  rw [h] at e; cases e
/-- whatever the bag does, v is no integer, no term, no list of terms -/
def NotIntB (K : PySem.W.Frag) (H : Hp) (b : Addr) (v : V) : Prop := ∀ H', But b H H' → NotInt K H' v
def WrongB (K : PySem.W.Frag) (H : Hp) (b : Addr) (v : V) : Prop := ∀ H', But b H H' → NotTerm K H' v
def BadB (K : PySem.W.Frag) (H : Hp) (b : Addr) (v : V) : Prop := ∀ H', But b H H' → BadList K H' v
theorem NotIntB.but (h : NotIntB K H b v) (s : But b H H') : NotIntB K H' b v := fun H2 s2 => h H2 (s.trans s2)
theorem WrongB.but (h : WrongB K H b v) (s : But b H H') : WrongB K H' b v := fun H2 s2 => h H2 (s.trans s2)
theorem BadB.but (h : BadB K H b v) (s : But b H H') : BadB K H' b v := fun H2 s2 => h H2 (s.trans s2)
theorem BadB.now (h : BadB K H b v) : BadList K H v := h H (But.refl _ _)
theorem WrongB.all (h : WrongB K H b v) : ∀ H', Same H H' → NotTerm K H' v := fun H' s => h H' (Same.but s b)
theorem kk {a c : String} (h : kitB a c = some false) : PySem.W.kitOne K (.type a) (.type c) = some false := kit_ty h
theorem atI_mem {xs : List V} {n : Int} (h0 : 0 ≤ n) (h1 : n < xs.length) : ∃ v, v ∈ xs ∧ atI xs n = some v := by
  have h2 : n.toNat < xs.length := by omega
  refine ⟨xs[n.toNat], List.getElem_mem h2, ?_⟩
  unfold atI ixN
  rw [if_pos h0, if_pos h1]
  exact List.getElem?_eq_getElem h2
/-! ### lists of truths as data -/
theorem dp_bools : ∀ bs : List Bool, DpAll K H (bs.map V.bl) (bs.map PyData.bool)
  | [] => .nil
  | c :: bs => .cons (.bl c) (dp_bools bs)
theorem eqv_bools : ∀ bs cs : List Bool, PyData.eqvAll (bs.map PyData.bool) (cs.map PyData.bool) = decide (bs = cs)
  | [], [] => by simp [PyData.eqvAll]
  | [], _ :: _ => by simp [PyData.eqvAll]
  | _ :: _, [] => by simp [PyData.eqvAll]
  | c :: bs, d :: cs => by
    rw [List.map_cons, List.map_cons, PyData.eqvAll, eqv_bools bs cs]
    cases c <;> cases d <;> simp [PyData.eqv]
theorem shaped_bools (bs : List Bool) : SeqAt.shaped (.list (bs.map PyData.bool)) = true := (Lay.list (n := 1) fun x hx => by
  obtain ⟨c, _, rfl⟩ := List.mem_map.mp hx
  exact ⟨by simp [PyData.canLay0], by simp [PyData.depth]⟩).shaped (by decide)
theorem r_neBs {Q : VK} {l m : Addr} {bs cs : List Bool} (h : H l = some (.lst (bs.map V.bl))) (h' : H m = some (.lst (cs.map V.bl))) (q : Q (.bl (!decide (bs = cs))) H) : rNeD K (.ref l) (.ref m) H Q :=
  ⟨_, _, .lst (.of h) (dp_bools bs), .lst (.of h') (dp_bools cs), shaped_bools bs, shaped_bools cs, by rw [PyData.eqv, eqv_bools]; exact q⟩
end
end My

set_option Elab.async false
set_option linter.all false
set_option maxRecDepth 100000
namespace My
open PySem PySem.Spec PyProof.Rows L2
/-! ### numbers within bounds -/
structure Numb (c : Int → Int) (N : Int) (B : Nat) : Prop where
  supp : ∀ k, c k ≠ 0 → -N ≤ k ∧ k ≤ N
  bd : ∀ k, (c k).natAbs ≤ B
  tm : ∃ ts : Terms, ∀ k, cof ts k = c k
theorem Numb.mono {c : Int → Int} {N N' : Int} {B B' : Nat} (h : Numb c N B) (n : N ≤ N') (b : B ≤ B') : Numb c N' B' := ⟨fun k hk => by have := h.supp k hk; omega, fun k => Nat.le_trans (h.bd k) b, h.tm⟩
theorem Numb.ext {c d : Int → Int} {N : Int} {B : Nat} (h : Numb c N B) (e : ∀ k, c k = d k) : Numb d N B := by rwa [show d = c from funext fun k => (e k).symm]
theorem Numb.len {c : Int → Int} {N : Int} {B : Nat} {ts : Terms} (h : Numb c N B) (hc : Canon ts) (e : ∀ k, cof ts k = c k) : ts.length ≤ (2 * N + 1).toNat := by
  have : ts.length ≤ ((List.range (2 * N + 1).toNat).map fun i => (((i : Nat) : Int) - N, (0 : Int))).length := hc.le_len fun p hp => by
    have := h.supp p.1 (by rw [← e, hc.at hp]; exact hc.nz p hp)
    rw [List.map_map]
    exact List.mem_map.mpr ⟨(p.1 + N).toNat, List.mem_range.mpr (by omega), show ((p.1 + N).toNat : Int) - N = p.1 by omega⟩
  rwa [List.length_map, List.length_range] at this
theorem Numb.sm {c : Int → Int} {N : Int} {B : Nat} (h : Numb c N B) (b : B ≤ 10 ^ 1000) : Sm c := fun k => Nat.lt_of_le_of_lt (Nat.le_trans (h.bd k) b) (by decide +kernel)
theorem Numb.shift {c : Int → Int} {N s M : Int} {B : Nat} (h : Numb c N B) (a : -M ≤ s) (b : s ≤ M) : Numb (fun k => c (k - s)) (N + M) B := ⟨fun k hk => by have := h.supp _ hk; omega, fun k => h.bd _, by
  obtain ⟨ts, e⟩ := h.tm
  exact ⟨shiftT s ts, fun k => (cof_shift s ts k).trans (e _)⟩⟩
theorem Numb.add {c d : Int → Int} {N M : Int} {B D : Nat} (h : Numb c N B) (g : Numb d M D) (l : M ≤ N) : Numb (fun k => c k + d k) N (B + D) := ⟨fun k hk => by
  by_cases e : c k = 0
  · have := g.supp k (fun z => hk (by rw [e, z]; rfl)); omega
  · exact h.supp k e, fun k => by have := h.bd k; have := g.bd k; omega, by
  obtain ⟨ts, e⟩ := h.tm
  obtain ⟨us, f⟩ := g.tm
  exact ⟨ts ++ us, fun k => by rw [cof_app, e, f]⟩⟩
theorem DivC.len {c : Int → Int} {w : Int} {M : Nat} {ts : Terms} (h : DivC c w M) (hc : Canon ts) (e : ∀ k, cof ts k = c k) : ts.length ≤ (w + 1).toNat := by
  have w0 := h.w0
  have : ts.length ≤ ((List.range (w + 1).toNat).map fun i => (((i : Nat) : Int), (0 : Int))).length := hc.le_len fun p hp => by
    have nz : c p.1 ≠ 0 := by rw [← e, hc.at hp]; exact hc.nz p hp
    have : ¬ p.1 < 0 := fun z => nz (h.low _ z)
    have : ¬ w < p.1 := fun z => nz (h.high _ z)
    rw [List.map_map]
    exact List.mem_map.mpr ⟨p.1.toNat, List.mem_range.mpr (by omega), show ((p.1.toNat : Nat) : Int) = p.1 by omega⟩
  rwa [List.length_map, List.length_range] at this
/-- quotient and rest, with all that the law wants -/
structure Div05 (c cb : Int → Int) (w : Int) (qs rs : Terms) : Prop where
  eq : ∀ k, c k = mulF cb (cof qs) k + cof rs k
  low : ∀ k, k < 0 → cof rs k = 0
  high : ∀ k, w ≤ k → cof rs k = 0
  ql : qs.length ≤ 1401
  smq : Sm (cof qs)
theorem Div05.unique {c cb : Int → Int} {w : Int} {qs rs qs' rs' : Terms} {M : Nat} {ds : Terms} (D : DivC cb w M) (hc : Canon ds) (e : ∀ k, cof ds k = cb k) (h : Div05 c cb w qs rs) (eq : ∀ k, c k = mulF cb (cof qs') k + cof rs' k) (low : ∀ k, k < 0 → cof rs' k = 0) (high : ∀ k, w ≤ k → cof rs' k = 0) :
    (∀ k, cof qs k = cof qs' k) ∧ ∀ k, cof rs k = cof rs' k := by
  have m : ∀ (us : Terms) k, mulF cb (cof us) k = cmul us (cof ds) k := fun us k => by rw [mulF_of e (fun _ => rfl), cmul_comm]
  exact DivR.unique (c := c) (D.divT hc e) ⟨fun k => by rw [h.eq, m], h.low, h.high⟩ ⟨fun k => by rw [eq, m], low, high⟩
section
variable {C : Addr} {H : Hp} {Q : VK} {E : XK} {a r j : Addr} {ts : Terms} {w N : Int} {c cb : Int → Int} {B : Nat}
end
/-! ### products of three -/
/-- one of the things that are divided: a Poly, its dict, the quotient's dict where it is known -/
def Item5 (C : Addr) (cb : Int → Int) (H : Hp) (v : V) : Prop := ∃ (t p jj : Addr) (ts : Terms) (n : Nat) (c : Int → Int) (due : V), v = .ref t ∧ H t = some (.tup [.ref p, .ref jj, due]) ∧ PolyAt C H p ts ∧ (∀ k, cof ts k = c k) ∧ JarAt H jj n c ∧ n ≤ 90000 ∧ Numb c 100 (10 ^ 60) ∧
  (due = .non ∨ ∃ (dj : Addr) (nd : Nat) (cd : Int → Int), due = .ref dj ∧ JarAt H dj nd cd ∧ nd ≤ 90000 ∧ (∃ td, ∀ k, cof td k = cd k) ∧ ∀ k, c k = mulF cb cd k)
theorem Item5.same {C : Addr} {cb : Int → Int} {H H' : Hp} {v : V} (h : Item5 C cb H v) (s : Same H H') : Item5 C cb H' v := by
  obtain ⟨t, p, jj, ts, n, c, due, e, h1, h2, h3, h4, h5, h6, h7⟩ := h
  refine ⟨t, p, jj, ts, n, c, due, e, s _ _ h1, h2.same s, h3, h4.same s, h5, h6, ?_⟩
  rcases h7 with h7 | ⟨dj, nd, cd, e, h8, r⟩
  · exact .inl h7
  · exact .inr ⟨dj, nd, cd, e, h8.same s, r⟩
end My

set_option Elab.async false
set_option linter.all false
set_option maxRecDepth 100000
namespace My
open PySem PySem.Spec PyProof.Rows L2
/-! ### polynomials acting on rows -/
/-- zero at an order: the row is one of zeros -/
def Zr (n : Nat) (ts : Terms) : Prop := ∀ k, foldR n (M11.primes n) (cof (foldT n ts)) k = 0
theorem Zr.ext {n : Nat} {ts us : Terms} (h : Zr n ts) (e : ∀ k, cof ts k = cof us k) : Zr n us := fun k => by
  rw [← foldR_ext _ (foldT_ext e) k]; exact h k
def mulN (n : Nat) (f : Terms) (c : Int → Int) : Int → Int := fun k => if 0 ≤ k ∧ k < n then sumT (fun d => c ((k - d) % n)) f else 0
theorem sumT_sub (f g : Int → Int) : ∀ ts : Terms, sumT (fun k => f k - g k) ts = sumT f ts - sumT g ts
  | [] => rfl
  | p :: ts => by rw [sumT, sumT, sumT, sumT_sub f g ts, Int.mul_sub]; omega
theorem mod_in {n : Nat} (n1 : 1 ≤ n) (x : Int) : 0 ≤ x % (n : Int) ∧ x % (n : Int) < n := ⟨Int.emod_nonneg _ (by omega), Int.emod_lt_of_pos _ (by omega)⟩
theorem step_mul {n : Nat} (n1 : 1 ≤ n) (s : Nat) (f : Terms) (c : Int → Int) (k : Int) : stepF n s (mulN n f c) k = mulN n f (stepF n s c) k := by
  unfold stepF mulN
  by_cases e : 0 ≤ k ∧ k < n
  · rw [if_pos e, if_pos e, if_pos e, if_pos (mod_in n1 _), ← sumT_sub]
    refine sumT_congr fun p _ => ?_
    show c ((k - p.1) % (n : Int)) - c (((k + (s : Int)) % (n : Int) - p.1) % n) = if 0 ≤ (k - p.1) % (n : Int) ∧ (k - p.1) % (n : Int) < n then c ((k - p.1) % (n : Int)) - c (((k - p.1) % (n : Int) + s) % n) else 0
    rw [if_pos (mod_in n1 _)]
    have h1 : ((k + (s : Int)) % (n : Int) - p.1) % n = ((k - p.1) % n + s) % n := by
      rw [Int.emod_sub_emod, Int.emod_add_emod]
      congr 1
      omega
    rw [h1]
  · rw [if_neg e, if_neg e]
theorem foldR_mulN {n : Nat} (n1 : 1 ≤ n) (f : Terms) : ∀ (ps : List Nat) (c : Int → Int) (k : Int), foldR n ps (mulN n f c) k = mulN n f (foldR n ps c) k
  | [], _, _ => rfl
  | p :: ps, c, k => by
    show foldR n ps (stepF n (n / p) (mulN n f c)) k = mulN n f (foldR n ps (stepF n (n / p) c)) k
    rw [foldR_ext ps (step_mul n1 (n / p) f c)]
    exact foldR_mulN n1 f ps _ k
theorem sumT_row (h : Int → Int) (p : Int × Int) : ∀ us : Terms, sumT h (rowT p us) = p.2 * sumT (fun e => h (p.1 + e)) us
  | [] => by simp [rowT, sumT]
  | q :: us => by
    have ih := sumT_row h p us
    show p.2 * q.2 * h (p.1 + q.1) + sumT h (rowT p us) = p.2 * (q.2 * h (p.1 + q.1) + sumT (fun e => h (p.1 + e)) us)
    rw [ih, Int.mul_add, Int.mul_assoc]
theorem sumT_prod (h : Int → Int) : ∀ (f g : Terms), sumT h (prodT f g) = sumT (fun d => sumT (fun e => h (d + e)) g) f
  | [], _ => rfl
  | p :: f, g => by rw [prodT, sumT_app, sumT_row, sumT_prod h f g, sumT]
theorem cof_foldT_prod {n : Nat} (n1 : 1 ≤ n) (f g : Terms) (k : Int) : cof (foldT n (prodT f g)) k = mulN n f (cof (foldT n g)) k := by
  unfold mulN
  by_cases e : 0 ≤ k ∧ k < n
  · rw [if_pos e, cof_foldT, sumT_prod]
    refine sumT_congr fun p _ => ?_
    rw [cof_foldT]
    refine sumT_congr fun q _ => ?_
    have key : (p.1 + q.1) % (n : Int) = k ↔ q.1 % n = (k - p.1) % n := by
      constructor
      · intro z
        rw [← z, Int.emod_sub_emod]
        congr 1
        omega
      · intro z
        have h1 : (p.1 + q.1) % (n : Int) = (p.1 + (k - p.1)) % n := by rw [← Int.add_emod_emod, z, Int.add_emod_emod]
        rw [h1, show p.1 + (k - p.1) = k by omega]
        exact Int.emod_eq_of_lt e.1 e.2
    by_cases z : (p.1 + q.1) % (n : Int) = k
    · rw [if_pos z, if_pos (key.mp z)]
    · rw [if_neg z, if_neg fun y => z (key.mpr y)]
  · rw [if_neg e]
    exact cof_foldT_low (by omega) (by omega)
theorem fold_prod {n : Nat} (n1 : 1 ≤ n) (f g : Terms) (k : Int) : foldR n (M11.primes n) (cof (foldT n (prodT f g))) k = mulN n f (foldR n (M11.primes n) (cof (foldT n g))) k := by
  rw [foldR_ext _ (cof_foldT_prod n1 f g), foldR_mulN n1]
theorem sumT_zeros : ∀ (ts : Terms), sumT (fun _ => 0) ts = 0
  | [] => rfl
  | p :: ts => by rw [sumT, sumT_zeros ts]; omega
theorem Zr.prod {n : Nat} (n1 : 1 ≤ n) {g : Terms} (h : Zr n g) (f : Terms) : Zr n (prodT f g) := fun k => by
  rw [fold_prod n1]
  unfold mulN
  split
  · exact (sumT_congr (f := fun d => foldR n (M11.primes n) (cof (foldT n g)) ((k - d) % n)) (g := fun _ => 0) fun p _ => h _).trans (sumT_zeros f)
  · rfl
/-! ### a number greater than all others together -/
structure Heavy (f : Terms) : Prop where
  ex : ∃ (D v : Int) (rest : Terms), (∀ k, cof f k = cof ((D, v) :: rest) k) ∧ (rest.map fun p => p.2.natAbs).sum < v.natAbs
theorem sumT_le {h : Int → Int} {M : Nat} (b : ∀ k, (h k).natAbs ≤ M) : ∀ ts : Terms, (sumT h ts).natAbs ≤ (ts.map fun p => p.2.natAbs).sum * M
  | [] => by simp [sumT]
  | p :: ts => by
    have ih := sumT_le b ts
    rw [sumT, List.map_cons, List.sum_cons, Nat.add_mul]
    have h1 : (p.2 * h p.1).natAbs ≤ p.2.natAbs * M := by rw [Int.natAbs_mul]; exact Nat.mul_le_mul_left _ (b _)
    omega
theorem max_at (u : Int → Int) : ∀ n : Nat, 1 ≤ n → ∃ i : Nat, i < n ∧ ∀ j : Nat, j < n → (u j).natAbs ≤ (u i).natAbs
  | 0, h => by omega
  | 1, _ => ⟨0, by omega, fun j hj => by rw [show j = 0 by omega]; exact Nat.le_refl _⟩
  | n + 2, _ => by
    obtain ⟨i, hi, h⟩ := max_at u (n + 1) (by omega)
    by_cases e : (u ((n + 1 : Nat) : Int)).natAbs ≤ (u i).natAbs
    · exact ⟨i, by omega, fun j hj => by
        by_cases z : j = n + 1
        · rw [z]; exact e
        · exact h j (by omega)⟩
    · exact ⟨n + 1, by omega, fun j hj => by
        by_cases z : j = n + 1
        · rw [z]; exact Nat.le_refl _
        · have := h j (by omega); omega⟩
theorem Heavy.zero {f g : Terms} (hf : Heavy f) {n : Nat} (n1 : 1 ≤ n) (h : Zr n (prodT f g)) : Zr n g := by
  obtain ⟨D, v, rest, e, hv⟩ := hf.ex
  have hu : ∀ k, mulN n f (foldR n (M11.primes n) (cof (foldT n g))) k = 0 := fun k => by rw [← fold_prod n1]; exact h k
  have hout := fun k => rowR_out n1 g (M11.primes n) k
  show ∀ k, foldR n (M11.primes n) (cof (foldT n g)) k = 0
  generalize foldR n (M11.primes n) (cof (foldT n g)) = u at *
  obtain ⟨i, hi, hmax⟩ := max_at u n n1
  have hall : ∀ k, (u k).natAbs ≤ (u i).natAbs := fun k => by
    by_cases z : 0 ≤ k ∧ k < n
    · have := hmax k.toNat (by omega)
      rwa [show ((k.toNat : Nat) : Int) = k by omega] at this
    · rw [hout k z]; omega
  have h1 := hu (((i : Int) + D) % n)
  unfold mulN at h1
  rw [if_pos (mod_in n1 _), sumT_ext _ e, sumT] at h1
  have h2 : ((((i : Int) + D) % (n : Int)) - D) % n = i := by
    rw [Int.emod_sub_emod, show (i : Int) + D - D = i by omega]
    exact Int.emod_eq_of_lt (by omega) (by omega)
  rw [show (D, v).1 = D from rfl, h2] at h1
  have h3 := sumT_le (h := fun d => u ((((i : Int) + D) % (n : Int) - d) % n)) (fun k => hall _) rest
  have h4 : (v * u i).natAbs ≤ (rest.map fun p => p.2.natAbs).sum * (u i).natAbs := by
    have : v * u i = -sumT (fun d => u ((((i : Int) + D) % (n : Int) - d) % n)) rest := by
      have h5 : (D, v).2 * u i = v * u i := rfl
      omega
    rw [this, Int.natAbs_neg]
    exact h3
  rw [Int.natAbs_mul] at h4
  have h5 : (u i).natAbs = 0 := by
    refine Decidable.byContradiction fun z => ?_
    have := Nat.mul_lt_mul_of_pos_right hv (by omega : 0 < (u i).natAbs)
    omega
  intro k
  have := hall k
  omega
theorem Heavy.one (D v : Int) (h : v ≠ 0) : Heavy [(D, v)] := ⟨⟨D, v, [], fun _ => rfl, by simp; omega⟩⟩
theorem Heavy.ext {f g : Terms} (h : Heavy f) (e : ∀ k, cof f k = cof g k) : Heavy g := let ⟨⟨D, v, r, e1, e2⟩⟩ := h; ⟨⟨D, v, r, fun k => (e k).symm.trans (e1 k), e2⟩⟩
theorem heavy_iff {f g : Terms} (hf : Heavy f) {n : Nat} (n1 : 1 ≤ n) : Zr n (prodT f g) ↔ Zr n g := ⟨hf.zero n1, fun h => h.prod n1 f⟩
theorem Zr_neg {n : Nat} (n1 : 1 ≤ n) (g : Terms) : Zr n (negT g) ↔ Zr n g := by
  have e : ∀ k, cof (prodT [(0, -1)] g) k = cof (negT g) k := fun k => by
    rw [cof_prod, cmul, cmul, cof_neg]
    show -1 * cof g (k - 0) + 0 = _
    rw [Int.sub_zero]; omega
  refine Iff.trans ?_ (heavy_iff (Heavy.one 0 (-1) (by decide)) n1)
  exact ⟨fun h => h.ext fun k => (e k).symm, fun h => h.ext e⟩
/-! ### the mirror -/
def RevOf (n : Nat) (c d : Int → Int) : Prop := ∃ (σ t : Int), (σ = 1 ∨ σ = -1) ∧ (∀ k : Int, 0 ≤ k → k < n → d k = σ * c ((-(k + t)) % n)) ∧ ∀ k : Int, ¬ (0 ≤ k ∧ k < n) → d k = 0
theorem RevOf.step {n : Nat} (n1 : 1 ≤ n) {c d : Int → Int} (h : RevOf n c d) (s : Nat) : RevOf n (stepF n s c) (stepF n s d) := by
  obtain ⟨σ, t, hs, hd, ho⟩ := h
  refine ⟨-σ, t + s, by omega, fun k k0 k1 => ?_, fun k hk => if_neg hk⟩
  have m := mod_in n1 (k + s)
  have mj := mod_in n1 (-(k + (t + s)))
  unfold stepF
  rw [if_pos ⟨k0, k1⟩, if_pos mj, hd k k0 k1, hd _ m.1 m.2]
  have e1 : (-((k + (s : Int)) % (n : Int) + t)) % n = (-(k + (t + s))) % n := by
    rw [show -((k + (s : Int)) % (n : Int) + t) = -t - (k + s) % n by omega, Int.sub_emod_emod]
    congr 1
    omega
  have e2 : ((-(k + (t + (s : Int)))) % (n : Int) + s) % n = (-(k + t)) % n := by
    rw [Int.emod_add_emod]
    congr 1
    omega
  rw [e1, e2]
  rcases hs with rfl | rfl <;> omega
theorem RevOf.fold {n : Nat} (n1 : 1 ≤ n) : ∀ (ps : List Nat) {c d : Int → Int}, RevOf n c d → RevOf n (foldR n ps c) (foldR n ps d)
  | [], _, _, h => h
  | p :: ps, c, d, h => RevOf.fold n1 ps (h.step n1 (n / p))
theorem revOf_mir {n : Nat} (n1 : 1 ≤ n) (ts : Terms) : RevOf n (cof (foldT n ts)) (cof (foldT n (mirT ts))) := by
  refine ⟨1, 0, .inl rfl, fun k k0 k1 => ?_, fun k hk => cof_foldT_low (by omega) (by omega)⟩
  rw [Int.one_mul, Int.add_zero, cof_foldT, cof_foldT]
  have e : mirT ts = ts.map fun q => ((fun j => -j) q.1, 1 * q.2) := List.map_congr_left fun q _ => by rw [Int.one_mul]
  rw [e, sumT_map _ (fun j => -j) 1 ts, Int.one_mul]
  refine sumT_congr fun p _ => ?_
  have key : (-p.1) % (n : Int) = k ↔ p.1 % n = (-k) % n := by
    constructor
    · intro z
      rw [← z, show -(-p.1 % (n : Int)) = 0 - (-p.1) % n by omega, Int.sub_emod_emod]
      congr 1
      omega
    · intro z
      have h1 : (-p.1) % (n : Int) = (0 - (-k)) % n := by
        rw [← Int.sub_emod_emod, ← z, Int.sub_emod_emod]
        congr 1
        omega
      rw [h1, show 0 - -k = k by omega]
      exact Int.emod_eq_of_lt k0 k1
  by_cases z : (-p.1) % (n : Int) = k
  · rw [if_pos z, if_pos (key.mp z)]
  · rw [if_neg z, if_neg fun y => z (key.mpr y)]
theorem Zr.mir {n : Nat} (n1 : 1 ≤ n) {ts : Terms} (h : Zr n ts) : Zr n (mirT ts) := fun k => by
  obtain ⟨σ, t, _, h1, h2⟩ := (revOf_mir n1 ts).fold n1 (M11.primes n)
  by_cases e : 0 ≤ k ∧ k < n
  · rw [h1 k e.1 e.2, h]; omega
  · exact h2 k e
/-! ### what is zero is wide enough; so it is told -/
end My

set_option Elab.async false
set_option linter.all false
set_option maxRecDepth 100000
namespace My
open PySem PySem.Spec PyProof.Rows L2
/-! ### a call by keywords in the turned sequence -/
def spRev (sp : Sp) : Sp := fun vs H Q E => sp vs.reverse H Q E
def gR (us ws : List Value) : List Value := match us with | [] => ws.reverse | _ :: _ => []
def gRV (us ws : List V) : List V := match us with | [] => ws.reverse | _ :: _ => []
structure HasKR (P : Program) (w : World) (K : PySem.W.Frag) (mg : Str → Option Value) (base : Heap) (x : Str) (k : Nat) (ps ks : List Str) (sp : Sp) : Prop where
  ex : ∃ f fd, FnOk P w K mg base CX0 k f fd ps sp ∧ mg x = some (.ref f) ∧ PySem.W.keepIn K (.ref f) = true ∧ KBinds K fd ps ks gR gRV
theorem vals_rv : ∀ {vs : List V} {us : List Value}, Vals vs us → Vals vs.reverse us.reverse
  | _, _, .nil => .nil
  | _, _, .cons r t => by
    rw [List.reverse_cons, List.reverse_cons]
    exact Vals.append (vals_rv t) (.cons r .nil)
theorem kbindsR {K : PySem.W.Frag} {fd : FuncData} {ps ks : List Str} (h : ∀ ws : List Value, ws.length = ps.length → bindArgs fd ⟨[], ks.zip ws⟩ = pure (ps.zip ws.reverse)) (h0 : ps ≠ []) : KBinds K fd ps ks gR gRV := ⟨fun s us ws _ hl => by
  cases us with
  | nil => exact .of_eq (h ws (by have : ws.reverse.length = ps.length := hl; rwa [List.length_reverse] at this))
  | cons u r => exact absurd (List.length_eq_zero_iff.mp hl.symm) h0, fun r rz => by
  cases r with
  | nil => exact vals_rv rz
  | cons _ _ => exact .nil⟩
theorem pe_callHR {X : Cx} {k : Nat} {ps ks : List Str} {sp : Sp} {x : Str} {p pos : Pos} {kws : List Keyword} {tk : TA} (h : HasKR X.prog X.w X.K X.mg X.base x k ps ks sp) (hr : Room k X.A) (hkw : PK X kws tk) (hg : Gl X x := by rfl)
    (hall : (backToKw pos (keywordEach kws X.env)).all (·.1.isSome) = true := by rfl) (hks : (backToKw pos (keywordEach kws X.env)).filterMap (·.1) = ks := by rfl) (hdb : (x == ("__debug__" : Str)) = false := by decide)
    (hpl : ((backTo pos (starEach [] X.env)).any (·.1) || (backToKw pos (keywordEach kws X.env)).any (·.1.isNone)) = false := by rfl) : PE X (.Call (.Name x p) [] kws pos) (tCall (spRev sp) [] E0 tk) := by
  obtain ⟨f, fd, F, a, b, kb⟩ := h.ex
  refine ⟨fun pins s σ H Q I h => ?_⟩
  refine wpAny_Call_Name_kw (ld_glob I hg a ?_ hdb)
  refine PySem.W.callWith_KW0 (h₀ := X.base) I.ok.mod.kin b hall (thn (hkw.run pos pins s σ H _ I h) fun ws s2 ⟨zs, H2, I2, rz, q2⟩ => ⟨I2.kIn, ?_⟩) hpl
  rw [hks]
  have q2 : sp (zs ++ []).reverse H2 Q E0 := q2
  rw [List.append_nil] at q2
  exact run_fnk (us := []) (vs := []) F hr kb pass0 I2 .nil rz q2
/-! ### lists of ints compared -/
section
variable {K : PySem.W.Frag} {H : Hp}
end
end My

set_option Elab.async false
set_option linter.all false
set_option maxRecDepth 100000
set_option maxHeartbeats 4000000
namespace My
open PySem PySem.Spec PyProof.Rows L2
section
variable {prog : Program} {w : World} {A : Around} {E : Value → Shared → Prop} {s : Shared} {K : PySem.W.Frag} {x C L f : Addr} {h₀ : Heap} {m : Str → Option Value} {ox : Obj} {od : Option Obj}
end
section
variable {X : Cx} {pins : List (Addr × Obj)} {σ : L2.St} {H : Hp} {s : Shared} {Q : VK} {C : Addr} {m : Str} {k : Nat} {ps : List Str} {sp : Sp} {f : Addr} {fd : FuncData}
end
end My

set_option Elab.async false
set_option linter.all false
set_option maxRecDepth 100000
set_option pp.deepTerms false
set_option pp.deepTerms.threshold 12
set_option pp.maxSteps 1200
namespace My
open PySem PySem.Spec PyProof.Rows L2
/-! ### sets of orders -/
abbrev ordF (r : Addr) (b : Bool) : List (Str × V) := [("rows", .ref r), ("outside", .bl b)]
/-- a set of orders: the ascending list us, or all but these -/
def OrdAt (C : Addr) (H : Hp) (a : Addr) (us : List Int) (b : Bool) : Prop := ∃ dx r, H a = some (.ins C dx (ordF r b)) ∧ H r = some (.tup (us.map V.int)) ∧ us.Pairwise (· < ·) ∧ (∀ n ∈ us, 1 ≤ n) ∧ us.length ≤ 4000
theorem OrdAt.stay {C : Addr} {H H' : Hp} {a : Addr} {us : List Int} {b : Bool} (h : OrdAt C H a us b) (s : Stay H H') : OrdAt C H' a us b := let ⟨dx, r, h1, h2, h3⟩ := h; ⟨dx, r, s _ _ (by intro _ z; cases z) (by intro _ z; cases z) h1, s.tk _ _ h2, h3⟩
theorem OrdAt.same {C : Addr} {H H' : Hp} {a : Addr} {us : List Int} {b : Bool} (h : OrdAt C H a us b) (s : Same H H') : OrdAt C H' a us b := h.stay (.same s)
theorem OrdAt.asc {C : Addr} {H : Hp} {a : Addr} {us : List Int} {b : Bool} (h : OrdAt C H a us b) : us.Pairwise (· < ·) := let ⟨_, _, _, _, h3, _⟩ := h; h3
theorem OrdAt.pos {C : Addr} {H : Hp} {a : Addr} {us : List Int} {b : Bool} (h : OrdAt C H a us b) : ∀ n ∈ us, 1 ≤ n := let ⟨_, _, _, _, _, h4, _⟩ := h; h4
theorem OrdAt.len {C : Addr} {H : Hp} {a : Addr} {us : List Int} {b : Bool} (h : OrdAt C H a us b) : us.length ≤ 4000 := let ⟨_, _, _, _, _, _, h5⟩ := h; h5
/-! ### plain facts -/
section
variable {K : PySem.W.Frag} {mg : Str → Option Value} {C : Addr} {H : Hp} {Q : VK} {a : Addr} {us vs : List Int} {b c : Bool}
end
/-! ### promises -/
/-! ### the law's own -/
end My

set_option Elab.async false
set_option linter.all false
set_option maxRecDepth 100000
namespace My
open PySem PySem.Spec PyProof.Rows L2
/-! ### makings with defaults and keywords -/
section
variable {X : Cx} {C : Addr} {x : Str} {k n : Nat} {ps ks : List Str} {sp : Sp} {e : Expr} {es : List Expr} {p pos : Pos} {t tk : TA} {dvs : List V} {gV : List V → List V → List V} {kws : List Keyword}
end
section
variable {σ : L2.St} {H : Hp} {Q : VK} {C : Addr} {sp : Sp} {E : XK} {t tk : TA} {d : V} {ds : List V} {n m : Nat} {gV : List V → List V → List V}
/-! ### readings -/
end
end My

set_option Elab.async false
set_option linter.all false
set_option maxRecDepth 100000
namespace My
open PySem PySem.Spec PyProof.Rows L2
/-! ### lists of orders by a test -/
end My

set_option Elab.async false
set_option linter.all false
set_option maxRecDepth 100000
namespace My
open PySem PySem.Spec PyProof.Rows L2
/-! ### any(list of ints) -/
section
variable {X : Cx}
end
end My

set_option Elab.async false
set_option linter.all false
set_option maxRecDepth 100000
set_option maxHeartbeats 4000000
namespace My
open PySem PySem.Spec PyProof.Rows L2
/-! ### xs == [] of any list -/
section
variable {prog : Program} {w : World}
end
/-! ### dict(list of pairs with names) -/
/-- the dict of a place: its names and the addresses of its polynomials -/
def namD (nas : List (Str × Addr)) : List (Key × V) := nas.map fun e => (Sum.inr e.1, V.ref e.2)
theorem namD_val : ∀ (nas : List (Str × Addr)) (n : Str), (nas.map (·.1)).Nodup → (∀ a, (n, a) ∈ nas → valV (namD nas) (.inr n) = some (.ref a)) ∧ (¬ n ∈ nas.map (·.1) → valV (namD nas) (.inr n) = none)
  | [], n, _ => ⟨fun _ h => (by simp at h), fun _ => rfl⟩
  | e :: nas, n, nd => by
    obtain ⟨h1, h2⟩ := List.nodup_cons.mp (by rw [List.map_cons] at nd; exact nd)
    obtain ⟨i1, i2⟩ := namD_val nas n h2
    by_cases q : e.1 = n
    · subst q
      refine ⟨fun a ha => ?_, fun h => absurd (List.mem_map.mpr ⟨e, .head _, rfl⟩) h⟩
      rcases List.mem_cons.mp ha with z | z
      · rw [namD, List.map_cons, valV_pos rfl, ← z]
      · exact absurd (List.mem_map.mpr ⟨_, z, rfl⟩) h1
    · have q' : ¬ (Sum.inr e.1 : Key) = Sum.inr n := fun z => q (Sum.inr.inj z)
      refine ⟨fun a ha => ?_, fun h => ?_⟩
      · rcases List.mem_cons.mp ha with z | z
        · exact absurd (by rw [← z]) q
        · rw [namD, List.map_cons, valV_neg q']; exact i1 a z
      · rw [namD, List.map_cons, valV_neg q']
        exact i2 fun z => h (by rw [List.map_cons]; exact List.mem_cons_of_mem _ z)
/-- the names of a place and where its polynomials stand -/
def PlN (C : Addr) (H : Hp) (nas : List (Str × Addr)) (pl : Pl) : Prop := nas.map (·.1) = pl.map (·.1) ∧ ∀ n a, (n, a) ∈ nas → ∃ ts, (n, ts) ∈ pl ∧ PolyAt C H a ts
theorem PlN.stay {C : Addr} {H H' : Hp} {nas : List (Str × Addr)} {pl : Pl} (h : PlN C H nas pl) (s : Stay H H') : PlN C H' nas pl := ⟨h.1, fun n a m => let ⟨ts, t, p⟩ := h.2 n a m; ⟨ts, t, p.stay s⟩⟩
/-- the place of the numbers c, zeros allowed -/
structure IsPl0 (pl : Pl) (c : Str → Int → Int) : Prop where
  canon : ∀ e ∈ pl, Canon e.2 ∧ ∀ k, cof e.2 k = c e.1 k
  names : ∀ e ∈ pl, IsName e.1
  asc : pl.Pairwise fun a b => ncode a.1 < ncode b.1
  rest : ∀ n, ¬ n ∈ pl.map (·.1) → ∀ k, c n k = 0
theorem IsPl0.nd {pl : Pl} {c : Str → Int → Int} (h : IsPl0 pl c) : (pl.map (·.1)).Nodup := by
  rw [List.nodup_iff_pairwise_ne, List.pairwise_map]
  exact h.asc.imp fun z e => by rw [e] at z; exact absurd z (Nat.lt_irrefl _)
/-- what get with a default tells -/
theorem PlN.get {C : Addr} {H : Hp} {nas : List (Str × Addr)} {pl : Pl} {c : Str → Int → Int} {d e : Addr} (h : PlN C H nas pl) (ip : IsPl0 pl c) (hd : H d = some (.dK (namD nas))) (n : Str) {us : Terms} (he : PolyAt C H e us) (hu : ∀ k, cof us k = 0) :
    ∃ o a ts, DGet H d (.str n) o ∧ o.getD (.ref e) = .ref a ∧ PolyAt C H a ts ∧ ∀ k, cof ts k = c n k := by
  have nd : (nas.map (·.1)).Nodup := by rw [h.1]; exact ip.nd
  obtain ⟨v1, v2⟩ := namD_val nas n nd
  by_cases m : n ∈ nas.map (·.1)
  · obtain ⟨⟨n', a⟩, hm, rfl⟩ := List.mem_map.mp m
    obtain ⟨ts, t, hp⟩ := h.2 _ a hm
    exact ⟨_, a, ts, by have := DGet.k hd (k := .inr n'); rw [v1 a hm] at this; exact this, rfl, hp, (ip.canon _ t).2⟩
  · refine ⟨none, e, us, by have := DGet.k hd (k := .inr n); rw [v2 m] at this; exact this, rfl, he, fun k => ?_⟩
    rw [hu k, ip.rest n (by rw [← h.1]; exact m) k]
/-! ### sets of names -/
/-! ### the orders at which a place is zero -/
def ZrF (n : Nat) (c : Int → Int) : Prop := ∀ ts : Terms, (∀ k, cof ts k = c k) → Zr n ts
/-- us and b tell the orders at which all of c is zero -/
def CyOf (c : Str → Int → Int) (us : List Int) (b : Bool) : Prop := (b = true ↔ ∀ nm k, c nm k = 0) ∧ ∀ k : Int, k ∈ us ↔ b = false ∧ ∃ n : Nat, k = n ∧ 1 ≤ n ∧ n ≤ 300 ∧ ∀ nm, ZrF n (c nm)
theorem CyOf.same {c : Str → Int → Int} {us vs : List Int} {b d : Bool} (h : CyOf c us b) (k : CyOf c vs d) : b = d ∧ ∀ x, x ∈ us ↔ x ∈ vs := by
  have e : b = d := by rw [Bool.eq_iff_iff, h.1, k.1]
  subst e
  exact ⟨rfl, fun x => (h.2 x).trans (k.2 x).symm⟩
theorem CyOf.congr {c d : Str → Int → Int} {us : List Int} {b : Bool} (h : CyOf c us b) (e : ∀ n k, c n k = d n k) : CyOf d us b := by
  obtain rfl : c = d := funext fun n => funext (e n)
  exact h
theorem CyOf.neg {c d : Str → Int → Int} {us : List Int} {b : Bool} (h : CyOf (fun n k => c n k - d n k) us b) : CyOf (fun n k => d n k - c n k) us b := by
  refine ⟨h.1.trans ⟨fun z n k => by have : c n k - d n k = 0 := z n k; show d n k - c n k = 0; omega, fun z n k => by have : d n k - c n k = 0 := z n k; show c n k - d n k = 0; omega⟩, fun k => (h.2 k).trans (and_congr_right fun _ => exists_congr fun n => and_congr_right fun _ => and_congr_right fun n1 => and_congr_right fun _ => forall_congr' fun nm => ?_)⟩
  constructor
  · intro z ts e
    have := z (negT ts) fun k => by rw [cof_neg, e]; show -(d nm k - c nm k) = c nm k - d nm k; omega
    exact (Zr_neg n1 ts).mp this
  · intro z ts e
    have := z (negT ts) fun k => by rw [cof_neg, e]; show -(c nm k - d nm k) = d nm k - c nm k; omega
    exact (Zr_neg n1 ts).mp this
theorem span_supp {ts : Terms} {lo hi : Int} (hc : Canon ts) (h : ∀ k, cof ts k ≠ 0 → lo ≤ k ∧ k ≤ hi) (lh : lo ≤ hi) : spanOf ts ≤ hi - lo := by
  unfold spanOf
  cases hh : ts.head? with
  | none => show (0 : Int) ≤ _; omega
  | some p =>
    cases hl : ts.getLast? with
    | none => show (0 : Int) ≤ _; omega
    | some q =>
      have nz : ∀ r ∈ ts, lo ≤ r.1 ∧ r.1 ≤ hi := fun r hr => h r.1 (by rw [hc.at hr]; exact hc.nz r hr)
      have h1 := nz p (List.mem_of_mem_head? hh)
      have h2 := nz q (List.mem_of_getLast? hl)
      show q.1 - p.1 ≤ _
      omega
theorem len_supp {ts : Terms} {lo : Int} {N : Nat} (hc : Canon ts) (h : ∀ k, cof ts k ≠ 0 → lo ≤ k ∧ k ≤ lo + N - 1) : ts.length ≤ N := by
  have nd : (ts.map fun p => p.1 - lo).Nodup := by
    rw [List.nodup_iff_pairwise_ne, List.pairwise_map]
    exact hc.asc.imp fun z e => by omega
  have := key_len (n := N) nd fun k hk => by
    obtain ⟨p, hp, rfl⟩ := List.mem_map.mp hk
    have := h p.1 (by rw [hc.at hp]; exact hc.nz p hp)
    omega
  rwa [List.length_map] at this
theorem PlaceAt.sameK {H H' : Hp} {a : Addr} {pl : Pl} (h : PlaceAt H a pl) (s : Same H H') : PlaceAt H' a pl := let ⟨vs, e, k⟩ := h; ⟨vs, s _ _ e, PlaceL.same s k⟩
def PlJ (H : Hp) (v : V) (e : Str × Terms) : Prop := ∃ b l, v = .ref b ∧ H b = some (.tup [.str e.1, .ref l]) ∧ TermsAt H l e.2
theorem PlJ.same {H H' : Hp} {v : V} {e : Str × Terms} (h : PlJ H v e) (s : Same H H') : PlJ H' v e := let ⟨b, l, e1, e2, t⟩ := h; ⟨b, l, e1, s _ _ e2, t.same s⟩
/-! ### promises -/
def Narrow (c : Str → Int → Int) : Prop := ∀ nm k, c nm k ≠ 0 → -24 ≤ k ∧ k ≤ 24
theorem Narrow.span {c d : Str → Int → Int} (h : Narrow c) (g : Narrow d) {ts : Terms} {nm : Str} (hc : Canon ts) (e : ∀ k, cof ts k = c nm k - d nm k) : spanOf ts ≤ 60 ∧ ts.length ≤ 49 := by
  have hs : ∀ k, cof ts k ≠ 0 → -24 ≤ k ∧ k ≤ 24 := fun k hk => by
    rw [e k] at hk
    by_cases z : c nm k = 0
    · exact g nm k fun y => hk (by omega)
    · exact h nm k z
  exact ⟨Int.le_trans (span_supp hc hs (by decide)) (by decide), len_supp (lo := -24) (N := 49) hc fun k hk => by have := hs k hk; omega⟩
theorem Narrow.len {c : Str → Int → Int} (h : Narrow c) {ts : Terms} {nm : Str} (hc : Canon ts) (e : ∀ k, cof ts k = c nm k) : ts.length ≤ 49 := (h.span (d := fun _ _ => 0) (nm := nm) (fun _ _ z => absurd rfl z) hc fun k => by rw [e]; omega).2
def JarL (H : Hp) (v : V) (ts : Terms) : Prop := ∃ a m, v = .ref a ∧ JarAt H a m (cof ts) ∧ m ≤ 90000
theorem JarL.same {H H' : Hp} {v : V} {ts : Terms} (h : JarL H v ts) (s : Same H H') : JarL H' v ts := let ⟨a, m, e, j, l⟩ := h; ⟨a, m, e, j.same s, l⟩
def JarsAt (H : Hp) (l : Addr) (gs : List Terms) : Prop := ∃ vs, H l = some (.lst vs) ∧ Each (JarL H) vs gs
theorem JarsAt.same {H H' : Hp} {l : Addr} {gs : List Terms} (h : JarsAt H l gs) (s : Same H H') : JarsAt H' l gs := let ⟨vs, e, k⟩ := h; ⟨vs, s _ _ e, k.imp fun _ _ _ r => r.same s⟩
def CyAt (H : Hp) (t : Addr) (us : List Int) (b : Bool) : Prop := ∃ l, H t = some (.tup [.ref l, .bl b]) ∧ H l = some (.lst (us.map V.int)) ∧ us.length ≤ 4000
theorem CyAt.same {H H' : Hp} {t : Addr} {us : List Int} {b : Bool} (h : CyAt H t us b) (s : Same H H') : CyAt H' t us b := let ⟨l, e1, e2, e3⟩ := h; ⟨l, s _ _ e1, s _ _ e2, e3⟩
def CyL (H : Hp) (t l : Addr) (us : List Int) (b : Bool) : Prop := H t = some (.tup [.ref l, .bl b]) ∧ H l = some (.lst (us.map V.int)) ∧ us.length ≤ 4000
theorem CyL.same {H H' : Hp} {t l : Addr} {us : List Int} {b : Bool} (h : CyL H t l us b) (s : Same H H') : CyL H' t l us b := ⟨s _ _ h.1, s _ _ h.2.1, h.2.2⟩
theorem CyL.but {H H' : Hp} {t l m : Addr} {us : List Int} {b : Bool} {xs : List V} (h : CyL H t l us b) (n : l ≠ m) (e : H m = some (.lst xs)) (s : But m H H') : CyL H' t l us b := ⟨s _ _ (by rintro rfl; rw [h.1] at e; cases e) h.1, s _ _ n h.2.1, h.2.2⟩
end My

set_option Elab.async false
set_option linter.all false
set_option maxRecDepth 100000
set_option maxHeartbeats 4000000
namespace My
open PySem PySem.Spec PyProof.Rows L2
namespace Prog
end Prog
theorem PrAt.put {H : Hp} {q d r : Prog} {xs : List V} {n : Nat} {y : V} (hn : n < xs.length) (h1 : PrAt H q (xs.take n)) (hy : First H d y .nil) (h2 : PrAt H r (xs.drop (n + 1))) : PrAt H (q.app (d.app r)) (xs.set n y) := by
  rw [List.set_eq_take_append_cons_drop, if_pos hn]
  have : PrAt H d [y] := PrAt.cons hy rfl
  exact h1.app (this.app h2)
theorem Names.len {z : Str} (h : Names z) : z.length = 6 := by rw [← h.1]; simp [Str.length]
end My

set_option Elab.async false
set_option linter.all false
set_option maxRecDepth 100000
set_option maxHeartbeats 4000000
namespace My
open PySem PySem.Spec PyProof.Rows L2
namespace Prog
end Prog
/-! ### pairs of places -/
/-- the difference of two places on the way -/
def dif (ss : List Stp) (i j : Nat) : Str → Int → Int := fun n k => stC (ss.take i) n k - stC (ss.take j) n k
def rwP (i a m : Nat) : List (Nat × Nat) := (List.range' a m).map fun j => (i, j)
def prs (n i : Nat) : List (Nat × Nat) := (List.range i).flatMap fun k => rwP k (k + 1) (n - k - 1)
/-! ### rows of pairs -/
def MtR (CO : Addr) (ss : List Stp) (H : Hp) (v : V) (p : Nat × Nat) : Prop := ∃ b o us bb, v = .ref b ∧ H b = some (.tup [.int p.1, .int p.2, .ref o]) ∧ OrdAt CO H o us bb ∧ CyOf (dif ss p.1 p.2) us bb
theorem MtR.stay {CO : Addr} {ss : List Stp} {H H' : Hp} {v : V} {p : Nat × Nat} (h : MtR CO ss H v p) (s : Stay H H') : MtR CO ss H' v p := let ⟨b, o, us, bb, e, e1, e2, e3⟩ := h; ⟨b, o, us, bb, e, s.tk _ _ e1, e2.stay s, e3⟩
def DuR (ss : List Stp) (H : Hp) (l b : Addr) (v : V) (p : Nat × Nat) : Prop := ∃ a t lt us bb, v = .ref a ∧ H a = some (.tup [.int p.1, .int p.2, .ref t]) ∧ lt ≠ l ∧ lt ≠ b ∧ CyL H t lt us bb ∧ CyOf (dif ss p.1 p.2) us bb
theorem DuR.same {ss : List Stp} {H H' : Hp} {l b : Addr} {v : V} {p : Nat × Nat} (h : DuR ss H l b v p) (s : Same H H') : DuR ss H' l b v p := let ⟨a, t, lt, us, bb, e, e1, n1, n2, e2, e3⟩ := h; ⟨a, t, lt, us, bb, e, s _ _ e1, n1, n2, e2.same s, e3⟩
theorem DuR.but {ss : List Stp} {H H' : Hp} {l b m : Addr} {xs : List V} {v : V} {p : Nat × Nat} (h : DuR ss H l b v p) (hm : m = l ∨ m = b) (e : H m = some (.lst xs)) (s : But m H H') : DuR ss H' l b v p := by
  obtain ⟨a, t, lt, us, bb, e0, e1, n1, n2, e2, e3⟩ := h
  refine ⟨a, t, lt, us, bb, e0, s _ _ (by rintro rfl; rw [e] at e1; cases e1) e1, n1, n2, e2.but ?_ e s, e3⟩
  rcases hm with rfl | rfl
  · exact n1
  · exact n2
/-! ### a place of the law's own -/
def TrP (H : Hp) (v : V) (ss : List Stp) : Prop := ∃ a pl, v = .ref a ∧ PlaceAt H a pl ∧ IsPlace pl (stC ss)
theorem TrP.same {H H' : Hp} {v : V} {ss : List Stp} (h : TrP H v ss) (s : Same H H') : TrP H' v ss := let ⟨a, pl, e, p, i⟩ := h; ⟨a, pl, e, p.sameK s, i⟩
theorem PlaceL.bag {H H' : Hp} {b : Addr} (g : Bag H b) (s : But b H H') : ∀ {vs : List V} {pl : Pl}, PlaceL (fun _ => True) H vs pl → PlaceL (fun _ => True) H' vs pl
  | [], _, h => h
  | _ :: _, _, ⟨c, l, e0, us, e1, e2, e3, e4, ⟨ws, e5, e7⟩, e6⟩ => by
    have tk : Tk H H' := Tk.but s g
    refine ⟨c, l, e0, us, e1, e2, tk _ _ e3, e4, ⟨ws, s _ _ ?_ e5, e7.tk tk⟩, PlaceL.bag g s e6⟩
    rintro rfl
    obtain ⟨x, y, z, hb, _⟩ := g
    rw [e5] at hb
    cases hb
    obtain ⟨a, q, r, h1, h2, _⟩ := e7
    cases h2
theorem PlaceAt.bag {H H' : Hp} {a b : Addr} {pl : Pl} (h : PlaceAt H a pl) (g : Bag H b) (s : But b H H') : PlaceAt H' a pl := by
  obtain ⟨vs, e, hp⟩ := h
  refine ⟨vs, s _ _ ?_ e, hp.bag g s⟩
  rintro rfl
  obtain ⟨x, y, z, hb, _⟩ := g
  rw [e] at hb
  cases hb
  obtain ⟨c, l, e0, us, h1, h2, _⟩ := hp
  cases h2
theorem TrP.bag {H H' : Hp} {b : Addr} {v : V} {ss : List Stp} (h : TrP H v ss) (g : Bag H b) (s : But b H H') : TrP H' v ss := let ⟨a, pl, e, p, i⟩ := h; ⟨a, pl, e, p.bag g s, i⟩
/-! ### pairs (list of ints, truth) compared -/
end My

set_option Elab.async false
set_option linter.all false
set_option maxRecDepth 100000
set_option maxHeartbeats 4000000
namespace My
open PySem PySem.Spec PyProof.Rows L2
/-! ### the program that draws a polynomial -/
theorem iabsD (n : Int) : (if n < 0 then -n else n) = (n.natAbs : Int) := by split <;> omega
theorem len_timesD (b : Prog) : ∀ n, (Prog.times n b).len = n * b.len
  | 0 => by rw [Prog.times]; simp; rfl
  | n + 1 => by rw [Prog.times, Prog.len_app, len_timesD b n, Nat.succ_mul]; omega
def wordOf (c : Int) : Str := if 0 < c then "go" else "back"
def drawT (nm : Str) : Int → Terms → Prog
  | _, [] => .nil
  | now, q :: ts => (if q.1 = now then .nil else .turn (q.1 - now) .nil : Prog).app ((Prog.times q.2.natAbs (.step (wordOf q.2) nm .nil)).app (drawT nm q.1 ts))
def drawP (nm : Str) (ts : Terms) : Prog := if ts = [] then .turn 0 .nil else drawT nm 0 ts
/-- the commands of one term -/
def drawS (nm : Str) (now : Int) (q : Int × Int) : Prog := (if q.1 = now then .nil else .turn (q.1 - now) .nil : Prog).app (Prog.times q.2.natAbs (.step (wordOf q.2) nm .nil))
def lastP (now : Int) (ts : Terms) : Int := match ts.getLast? with | none => now | some q => q.1
theorem drawT_cons (nm : Str) (now : Int) (q : Int × Int) (ts : Terms) : drawT nm now (q :: ts) = (drawS nm now q).app (drawT nm q.1 ts) := by
  rw [drawT, drawS, Prog.app_assoc]
theorem drawT_snoc (nm : Str) : ∀ (ts : Terms) (now : Int) (q : Int × Int), drawT nm now (ts ++ [q]) = (drawT nm now ts).app (drawS nm (lastP now ts) q)
  | [], now, q => by rw [List.nil_append, drawT_cons, drawT, drawT, Prog.app_nil]; rfl
  | p :: ts, now, q => by
    rw [List.cons_append, drawT_cons, drawT_cons, drawT_snoc nm ts p.1 q, Prog.app_assoc]
    congr 3
    unfold lastP
    cases ts with
    | nil => rfl
    | cons r ts =>
      rw [List.getLast?_cons_cons]
      cases h : (r :: ts).getLast? with
      | none => simp at h
      | some q => rfl
theorem wordOf_is (c : Int) : IsWord (wordOf c) := by
  unfold wordOf
  split
  · exact .inl rfl
  · exact .inr (.inl rfl)
theorem drawS_wf {nm : Str} (hn : IsName nm) {now : Int} {q : Int × Int} (b : -BC ≤ q.1 - now ∧ q.1 - now ≤ BC) : Wf BC BC 0 (drawS nm now q) := by
  refine WfL.app ?_ (Prog.wf_times (WfL.step_iff.mpr ⟨wordOf_is _, hn, WfL.nil⟩) _)
  split
  · exact WfL.nil
  · exact WfL.turn_iff.mpr ⟨b, WfL.nil⟩
theorem drawS_head {nm : Str} {now : Int} {q : Int × Int} : now + (drawS nm now q).head = q.1 := by
  have h0 : ∀ n, (Prog.times n (.step (wordOf q.2) nm .nil)).head = 0 := fun n => by rw [Prog.head_times]; show (n : Int) * 0 = 0; omega
  rw [drawS, Prog.head_app, h0]
  split
  · rename_i e
    show now + (0 + 0) = q.1
    omega
  · show now + (q.1 - now + 0 + 0) = q.1
    omega
/-- all powers lie within -/
def Nar (B : Int) (ts : Terms) : Prop := ∀ q ∈ ts, -B ≤ q.1 ∧ q.1 ≤ B
theorem drawT_wf {nm : Str} (hn : IsName nm) {B : Int} (hB : 2 * B ≤ BC) : ∀ {ts : Terms} {now : Int}, Nar B ts → -B ≤ now ∧ now ≤ B → Wf BC BC 0 (drawT nm now ts)
  | [], _, _, _ => WfL.nil
  | q :: ts, now, h, hw => by
    have hq := h q (.head _)
    rw [drawT_cons]
    exact WfL.app (drawS_wf hn ⟨by omega, by omega⟩) (drawT_wf hn hB (fun p hp => h p (.tail _ hp)) hq)
theorem stepsame_wcf (w nm : Str) (n : Str) (k : Int) : ∀ (m : Nat) (h : Int), Prog.wcf h (Prog.times m (.step w nm .nil)) n k = m * (if nm = n ∧ h = k then stepSign w else 0)
  | 0, h => by rw [Prog.times, Prog.wcf]; simp
  | m + 1, h => by
    have ih := stepsame_wcf w nm n k m h
    rw [Prog.times]
    show (if nm = n ∧ h = k then stepSign w else 0) + Prog.wcf h (Prog.nil.app (Prog.times m (.step w nm .nil))) n k = _
    rw [show Prog.nil.app (Prog.times m (.step w nm .nil)) = Prog.times m (.step w nm .nil) from rfl, ih, Int.natCast_succ, Int.add_mul]
    omega
theorem wordSign (c : Int) : (c.natAbs : Int) * stepSign (wordOf c) = c := by
  unfold wordOf
  split
  · rw [show stepSign "go" = 1 by decide]; omega
  · rw [show stepSign "back" = -1 by decide]; omega
theorem drawS_wcf {nm : Str} (n : Str) (k now : Int) (q : Int × Int) : Prog.wcf now (drawS nm now q) n k = if nm = n ∧ q.1 = k then q.2 else 0 := by
  have hs : ∀ h : Int, Prog.wcf h (Prog.times q.2.natAbs (.step (wordOf q.2) nm .nil)) n k = if nm = n ∧ h = k then q.2 else 0 := fun h => by
    rw [stepsame_wcf]
    split
    · exact wordSign q.2
    · exact Int.mul_zero _
  rw [drawS]
  split
  · rename_i e
    show Prog.wcf now (Prog.times _ _) n k = _
    rw [hs, e]
  · show Prog.wcf (now + (q.1 - now)) (Prog.times _ _) n k = _
    rw [hs, show now + (q.1 - now) = q.1 by omega]
theorem drawT_wcf {nm : Str} (hn : IsName nm) {B : Int} (hB : 2 * B ≤ BC) (n : Str) (k : Int) : ∀ {ts : Terms} {now : Int}, Nar B ts → -B ≤ now ∧ now ≤ B → Prog.wcf now (drawT nm now ts) n k = if nm = n then cof ts k else 0
  | [], now, _, _ => by rw [drawT, Prog.wcf]; simp [cof]
  | q :: ts, now, h, hw => by
    have hq := h q (.head _)
    have ih := drawT_wcf hn hB n k (ts := ts) (now := q.1) (fun p hp => h p (.tail _ hp)) hq
    rw [drawT_cons, Prog.wcf_app _ _ n k (drawS_wf hn ⟨by omega, by omega⟩), drawS_wcf, drawS_head, ih]
    show _ = if nm = n then (if q.1 = k then q.2 else 0) + cof ts k else 0
    by_cases e : nm = n <;> by_cases f : q.1 = k <;> simp [e, f]
theorem drawP_wf {nm : Str} (hn : IsName nm) {B : Int} (hB : 2 * B ≤ BC) (b0 : 0 ≤ B) {ts : Terms} (h : Nar B ts) : Wf BC BC 0 (drawP nm ts) := by
  unfold drawP
  split
  · exact WfL.turn_iff.mpr ⟨by have : (0 : Int) ≤ BC := by decide +kernel
                               omega, WfL.nil⟩
  · exact drawT_wf hn hB h ⟨by omega, by omega⟩
theorem drawP_wcf {nm : Str} (hn : IsName nm) {B : Int} (hB : 2 * B ≤ BC) (b0 : 0 ≤ B) {ts : Terms} (h : Nar B ts) (n : Str) (k : Int) : Prog.wcf 0 (drawP nm ts) n k = if nm = n then cof ts k else 0 := by
  unfold drawP
  split
  · rename_i e
    rw [e]
    show (0 : Int) = _
    simp [cof]
  · exact drawT_wcf hn hB n k h ⟨by omega, by omega⟩
/-- how many steps -/
def absT : Terms → Nat
  | [] => 0
  | q :: ts => q.2.natAbs + absT ts
theorem absT_app : ∀ ts us : Terms, absT (ts ++ us) = absT ts + absT us
  | [], us => by rw [List.nil_append, absT, Nat.zero_add]
  | q :: ts, us => by rw [List.cons_append, absT, absT, absT_app ts us]; omega
theorem drawS_len (nm : Str) (now : Int) (q : Int × Int) : (drawS nm now q).len ≤ q.2.natAbs + 1 := by
  rw [drawS, Prog.len_app, len_timesD]
  have : (Prog.step (wordOf q.2) nm .nil).len = 1 := rfl
  rw [this]
  split
  · show 0 + _ ≤ _; omega
  · show 0 + 1 + _ ≤ _; omega
theorem drawT_len (nm : Str) : ∀ (ts : Terms) (now : Int), (drawT nm now ts).len ≤ absT ts + ts.length
  | [], _ => Nat.le_refl 0
  | q :: ts, now => by
    have h1 := drawS_len nm now q
    have h2 := drawT_len nm ts q.1
    rw [drawT_cons, Prog.len_app, absT, List.length_cons]
    omega
theorem drawT_pos (nm : Str) {ts : Terms} {now : Int} (hne : ts ≠ []) (nz : ∀ q ∈ ts, q.2 ≠ 0) : 1 ≤ (drawT nm now ts).len := by
  cases ts with
  | nil => exact absurd rfl hne
  | cons q ts =>
    have := nz q (.head _)
    rw [drawT_cons, Prog.len_app, drawS, Prog.len_app, len_timesD]
    have e : (Prog.step (wordOf q.2) nm .nil).len = 1 := rfl
    rw [e]
    omega
theorem drawP_len (nm : Str) (ts : Terms) : (drawP nm ts).len ≤ absT ts + ts.length + 1 := by
  unfold drawP
  split
  · show 0 + 1 ≤ _; omega
  · have := drawT_len nm ts 0; omega
theorem drawP_pos (nm : Str) {ts : Terms} (nz : ∀ q ∈ ts, q.2 ≠ 0) : 1 ≤ (drawP nm ts).len := by
  unfold drawP
  split
  · exact Nat.le_refl 1
  · rename_i h
    exact drawT_pos nm h nz
/-- steps of this name, and turns, alone -/
def Only (nm : Str) : Prog → Prop
  | .nil => True
  | .step w m r => (w = "go" ∨ w = "back") ∧ m = nm ∧ Only nm r
  | .turn _ r => Only nm r
  | .rep _ _ _ => False
  | .mir _ _ => False
theorem Only.app {nm : Str} : ∀ {p q : Prog}, Only nm p → Only nm q → Only nm (p.app q)
  | .nil, q, _, h => h
  | .step w m r, q, h, h' => ⟨h.1, h.2.1, Only.app (p := r) h.2.2 h'⟩
  | .turn _ r, q, h, h' => Only.app (p := r) h h'
  | .rep _ _ _, _, h, _ => h.elim
  | .mir _ _, _, h, _ => h.elim
theorem Only.times {nm : Str} {p : Prog} (h : Only nm p) : ∀ n, Only nm (Prog.times n p)
  | 0 => trivial
  | n + 1 => h.app (h.times n)
theorem drawT_only (nm : Str) : ∀ (ts : Terms) (now : Int), Only nm (drawT nm now ts)
  | [], _ => trivial
  | q :: ts, now => by
    rw [drawT_cons]
    refine Only.app (Only.app ?_ (Only.times (p := .step _ _ .nil) ⟨?_, rfl, trivial⟩ _)) (drawT_only nm ts q.1)
    · split <;> exact trivial
    · unfold wordOf
      split
      · exact .inl rfl
      · exact .inr rfl
theorem drawP_only (nm : Str) (ts : Terms) : Only nm (drawP nm ts) := by
  unfold drawP
  split
  · exact trivial
  · exact drawT_only nm ts 0
end My

set_option Elab.async false
set_option linter.all false
set_option maxRecDepth 100000
set_option maxHeartbeats 2000000
namespace My
open PySem PySem.Spec PyProof.Rows L2
/-! ### list(range(a, b, -1)) -/
/-- an expression that makes a range a, a - 1 .. b + 1 -/
def PRg3 (X : Cx) (e : Expr) (t : L2.St → Hp → (Int → Int → Hp → Prop) → Prop) : Prop :=
  ∀ (pins : List (Addr × Obj)) (s : Shared) (σ : L2.St) (H : Hp) (Q : Int → Int → Hp → Prop), Inv X pins σ H s → t σ H Q →
    wpAny (model X.prog X.w) X.A (eval e X.env) (fun x s' => ∃ r a b t u v H', x = .ref r ∧ IsRange s'.heap r a b (-1) t u v ∧ Inv X pins σ H' s' ∧ Q a b H') X.xe s
def tRg3 (ta : TA) : L2.St → Hp → (Int → Int → Hp → Prop) → Prop := fun σ H Q => ta σ H fun vs H1 => ∃ i j, vs = [.int i, .int j, .int (-1)] ∧ Q i j H1
theorem prg_3 {X : Cx} {a b c : Expr} {ta : TA} {p pos : Pos} (hg : Gl X "range") (hm : X.mg "range" = none) (ha : PA X [a, b, c] ta)
    (hs : starEach [a, b, c] X.env = (false, eval a X.env) :: starEach [b, c] X.env := by rfl) (hpl : (backTo pos (starEach [b, c] X.env)).any (·.1) = false := by rfl) :
    PRg3 X (.Call (.Name "range" p) [a, b, c] [] pos) (tRg3 ta) := by
  intro pins s σ H Q I h
  refine Call_ (ld_blt I hg hm boot_range (PyProof.Rows.callWith_type1 (thn (ha.run pos pins s σ H _ I h) fun us s1 ⟨vs, H1, I1, r1, q1⟩ => ?_) hs hpl))
  obtain ⟨i, j, e, q⟩ := q1
  subst e
  cases r1 with
  | cons r rr =>
    cases rr with
    | cons r' rr =>
      cases rr with
      | cons r'' rr =>
        cases rr
        obtain ⟨t, rfl⟩ := r
        obtain ⟨t', rfl⟩ := r'
        obtain ⟨t'', rfl⟩ := r''
        refine call_range_3 (by decide) ?_ (.inl (PyProof.noPylong_small (by decide)))
        exact ⟨_, i, j, _, _, _, H1, rfl, IsRange.new _ _ _ _ _ _ _, I1.kept (t' := s1.toks) fun b o e => Heap.get?_push_of_some _ e, q⟩
/-- the ints a, a - 1 .. b + 1 -/
def rgD (a b : Int) : List V := (List.range (a - b).toNat).map fun i => V.int (a - (i : Nat))
theorem rgD_length (a b : Int) : (rgD a b).length = (a - b).toNat := by unfold rgD; rw [List.length_map, List.length_range]
theorem vals_rgD {a b : Int} {acc : Array Value} (h : ItemsOf (fun i v => ∃ t, v = .int (a + i * (-1)) t) acc (a - b).toNat) : Vals (rgD a b) acc.toList := by
  have e : acc.toList.length = (a - b).toNat := by rw [Array.length_toList]; exact h.1
  unfold rgD
  rw [← e]
  refine vals_of_get acc.toList _ fun j u hj => ?_
  obtain ⟨t, rfl⟩ := h.2 j u (by rw [← hj, Array.getElem?_toList])
  exact ⟨t, by rw [show a + (j : Int) * -1 = a - j by omega]⟩
def tLstRg3 (te : L2.St → Hp → (Int → Int → Hp → Prop) → Prop) : TE := fun σ H Q => te σ H fun a b H1 => RgOk b a ∧ ∀ q, H1 q = none → Q (.ref q) (upd H1 q (.lst (rgD a b)))
theorem pe_listRg3 {X : Cx} {e : Expr} {te : L2.St → Hp → (Int → Int → Hp → Prop) → Prop} {p pos : Pos} (hc : X.calm = true) (hg : Gl X "list") (hm : X.mg "list" = none) (he : PRg3 X e te) (na : starEach [e] X.env = (false, eval e X.env) :: starEach [] X.env := by rfl) : PE X (.Call (.Name "list" p) [e] [] pos) (tLstRg3 te) := by
  refine ⟨fun pins s σ H Q I h => ?_⟩
  refine Call_ (ld_blt I hg hm boot_list (PyProof.Rows.callWith_type1 (args_cons (thn (he pins s σ H _ I h) fun x s1 ⟨r, a, b, t, u, v, H1, ex, hr, I1, ok, q⟩ => args_nil ?_) na) na))
  subst ex
  obtain ⟨b1, b2, b3, b4, b5⟩ := ok
  refine call_list_range (n := (a - b).toNat) (I1.ok.hd hc) hr (PySem.W.small_down b3 b4 b1 b2) (PySem.W.rangeSize_downNat a b) b5 fun h' tk acc c' hk e' hi => ?_
  refine ⟨.ref s1.heap.objs.size, upd H1 s1.heap.objs.size (.lst (rgD a b)), I1.laid hk (Nat.le_refl _) (show ObjOk X.prog X.w _ _ _ (.lst (rgD a b)) from ⟨?_, acc.toList, c', vals_rgD hi, ?_⟩), rfl, q _ (I1.hok.fresh (Nat.le_refl _))⟩
  · rw [rgD_length, sizeLine_eq]; omega
  · rw [Array.toArray_toList]; exact e'
theorem r_lstRg2 {ta tb : TE} {σ : L2.St} {H : Hp} {Q : VK} (q : ta σ H fun x H1 => tb σ H1 fun y H2 => ∃ i j, x = .int i ∧ y = .int j ∧ RgOk i j ∧ ∀ q, H2 q = none → Q (.ref q) (upd H2 q (.lst (rgV i j)))) : tLstRg (tRg2 ta tb) σ H Q := q
theorem r_lstRg3 {ta : TA} {σ : L2.St} {H : Hp} {Q : VK} (q : ta σ H fun vs H1 => ∃ i j, vs = [.int i, .int j, .int (-1)] ∧ RgOk j i ∧ ∀ q, H1 q = none → Q (.ref q) (upd H1 q (.lst (rgD i j)))) : tLstRg3 (tRg3 ta) σ H Q := q
end My

set_option Elab.async false
set_option linter.all false
set_option maxRecDepth 100000
namespace My
open PySem PySem.Spec PyProof.Rows L2
/-- the terms of a ring polynomial -/
def ringT (n : Nat) : Terms := ((((List.range (M11.phi n + 1)).map fun i => ((i : Nat) : Int)).filter fun k => decide (cofL (ringL n) k ≠ 0))).map fun k => (k, cofL (ringL n) k)
theorem rangeI_asc (n : Nat) : ((List.range n).map fun i => ((i : Nat) : Int)).Pairwise (· < ·) := by
  rw [List.pairwise_map]
  exact List.pairwise_lt_range.imp fun h => by omega
theorem ringT_canon (n : Nat) : Canon (ringT n) := canon_of (rangeI_asc _) _
theorem cof_ringT {n : Nat} (R : RingF n) (k : Int) : cof (ringT n) k = cofL (ringL n) k := by
  unfold ringT
  rw [cof_of (rangeI_asc _)]
  by_cases h : 0 ≤ k ∧ k < M11.phi n + 1
  · rw [if_pos (List.mem_map.mpr ⟨k.toNat, List.mem_range.mpr (by omega), by omega⟩)]
  · rw [if_neg fun z => by
      obtain ⟨i, hi, e⟩ := List.mem_map.mp z
      have := List.mem_range.mp hi
      omega]
    by_cases k0 : 0 ≤ k
    · rw [cofL_big (by rw [R.len]; omega)]
    · rw [cofL_neg (by omega)]
theorem ringT_eq {n : Nat} {ts : Terms} (R : RingF n) (h : Canon ts) (e : ∀ k, cof ts k = cofL (ringL n) k) : ts = ringT n := h.ext (ringT_canon n) fun k => (e k).trans (cof_ringT R k).symm
theorem ring_supp {n : Nat} (R : RingF n) {k : Int} (h : cofL (ringL n) k ≠ 0) : 0 ≤ k ∧ k ≤ M11.phi n := by
  refine ⟨Int.not_lt.mp fun z => h (cofL_neg z), Int.not_lt.mp fun z => h (cofL_big (by rw [R.len]; omega))⟩
/-- one prime more -/
theorem ring_step {m p : Nat} {ts us qs rs : Terms} {w : Int} (h : eqPad (expL p (ringL m)) (mulL (ringL (m * p)) (ringL m)) = true) (p1 : 1 ≤ p) (hc : ∀ k, cof ts k = cofL (ringL m) k) (hu : ∀ k, cof us k = cof (mulP p ts) k) (D : DivT ts w) (R : DivR (cof us) ts w qs rs) (k : Int) : cof qs k = cofL (ringL (m * p)) k := by
  have R' : DivR (cof us) ts w (termsL (ringL (m * p))) [] := ⟨fun k => by
    have e1 := eqPad_ok h k
    rw [cofL_expL p1, cofL_mulL] at e1
    rw [hu, cof_mulP (by omega), hc, e1, cmul_extr _ _ hc]
    show _ = _ + 0
    omega, fun _ _ => rfl, fun _ _ => rfl⟩
  rw [(R.unique D R').1 k, cof_termsL]
theorem ring_last {m wd n : Nat} {ts us : Terms} (h : eqPad (expL wd (ringL m)) (ringL n) = true) (p1 : 1 ≤ wd) (hc : ∀ k, cof ts k = cofL (ringL m) k) (hu : ∀ k, cof us k = cof (mulP wd ts) k) (k : Int) : cof us k = cofL (ringL n) k := by
  rw [hu, cof_mulP (by omega), hc, ← eqPad_ok h k, cofL_expL p1]
theorem mulP_supp {m p : Nat} {ts us : Terms} (R : RingF m) (p1 : 1 ≤ p) (hc : ∀ k, cof ts k = cofL (ringL m) k) (hu : ∀ k, cof us k = cof (mulP p ts) k) : (∀ k, (cof us k).natAbs ≤ 9) ∧ ∀ k, cof us k ≠ 0 → 0 ≤ k ∧ k ≤ (m * p : Nat) := by
  refine ⟨fun k => ?_, fun k h => ?_⟩
  · rw [hu, cof_mulP (by omega), hc]
    split
    · exact R.bd _
    · decide
  · rw [hu, cof_mulP (by omega), hc] at h
    by_cases e : k % (p : Int) = 0
    · rw [if_pos e] at h
      have := ring_supp R h
      have h3 := Int.mul_ediv_add_emod k p
      rw [e] at h3
      have h4 : (p : Int) * (k / p) ≤ p * m := Int.mul_le_mul_of_nonneg_left (by have := phi_le' m; omega) (by omega)
      have h5 : 0 ≤ (p : Int) * (k / p) := Int.mul_nonneg (by omega) (by omega)
      rw [Int.natCast_mul, Int.mul_comm (m : Int)]
      omega
    · rw [if_neg e] at h; exact absurd rfl h
def spRing (C : Addr) : Sp := fun vs H Q _ => ∃ n : Nat, vs = [.int n] ∧ 1 ≤ n ∧ n ≤ 210 ∧ ∀ a H', Same H H' → PolyAt C H' a (ringT n) → Q (.ref a) H'
end My

set_option Elab.async false
set_option linter.all false
set_option maxRecDepth 100000
namespace My
open PySem PySem.Spec PyProof.Rows L2
theorem getD_zip {l m : List Int} {k : Nat} (h : k < l.length) (h2 : k < m.length) : (List.zipWith (· - ·) l m).getD k 0 = l.getD k 0 - m.getD k 0 := by
  rw [List.getD_eq_getElem?_getD, List.getD_eq_getElem?_getD, List.getD_eq_getElem?_getD, List.getElem?_zipWith, List.getElem?_eq_getElem h, List.getElem?_eq_getElem h2]
  rfl
theorem mulS_length (w : Nat) (l : List Int) : (mulS w l).length = l.length := by unfold mulS; rw [List.length_zipWith, List.length_append]; omega
theorem mulS_getD {w : Nat} {l : List Int} {k : Nat} (h : k < l.length) : (mulS w l).getD k 0 = l.getD k 0 - if w ≤ k then l.getD (k - w) 0 else 0 := by
  unfold mulS
  rw [getD_zip h (by rw [List.length_append, List.length_replicate]; omega)]
  congr 1
  rw [List.getD_eq_getElem?_getD]
  by_cases e : w ≤ k
  · rw [if_pos e, List.getElem?_append_right (by rw [List.length_replicate]; exact e), List.length_replicate, List.getD_eq_getElem?_getD]
  · rw [if_neg e, List.getElem?_append_left (by rw [List.length_replicate]; omega), List.getElem?_replicate, if_pos (by omega)]
    rfl
theorem ext_getD {l m : List Int} (hl : l.length = m.length) (h : ∀ k, k < l.length → l.getD k 0 = m.getD k 0) : l = m := by
  refine List.ext_getElem hl fun k h1 h2 => ?_
  have := h k h1
  rwa [List.getD_eq_getElem?_getD, List.getD_eq_getElem?_getD, List.getElem?_eq_getElem h1, List.getElem?_eq_getElem h2] at this
theorem mulS_inj {w : Nat} {a b : List Int} (w1 : 1 ≤ w) (hl : a.length = b.length) (h : mulS w a = mulS w b) : a = b := by
  refine ext_getD hl fun k => ?_
  induction k using Nat.strongRecOn with
  | _ k ih =>
    intro hk
    have e : (mulS w a).getD k 0 = (mulS w b).getD k 0 := by rw [h]
    rw [mulS_getD hk, mulS_getD (by omega)] at e
    by_cases z : w ≤ k
    · rw [if_pos z, if_pos z, ih (k - w) (by omega) (by omega)] at e
      omega
    · rw [if_neg z, if_neg z] at e
      omega
theorem set_getD {l : List Int} {i k : Nat} {v : Int} (h : i < l.length) : (l.set i v).getD k 0 = if i = k then v else l.getD k 0 := by
  rw [List.getD_eq_getElem?_getD, List.getElem?_set]
  by_cases e : i = k
  · rw [if_pos e, if_pos e, if_pos h]; rfl
  · rw [if_neg e, if_neg e, List.getD_eq_getElem?_getD]
theorem getD_atI {l : List Int} {r : Int} (h0 : 0 ≤ r) (h1 : r < l.length) : atI (l.map V.int) r = some (.int (l.getD r.toNat 0)) := by
  unfold atI ixN
  rw [if_pos h0, List.length_map, if_pos h1]
  show (l.map V.int)[r.toNat]? = _
  rw [List.getElem?_map, List.getD_eq_getElem?_getD, List.getElem?_eq_getElem (by omega)]
  rfl
/-- a row under way, from its end on -/
def DownR (w i : Nat) (l cur : List Int) : Prop := cur.length = l.length ∧ ∀ k, k < l.length → cur.getD k 0 = if l.length - i ≤ k then l.getD k 0 - (if w ≤ k then l.getD (k - w) 0 else 0) else l.getD k 0
theorem DownR.start (w : Nat) (l : List Int) : DownR w 0 l l := ⟨rfl, fun k hk => by rw [if_neg (by omega)]⟩
theorem DownR.step {w i : Nat} {l cur : List Int} (h : DownR w i l cur) (w1 : 1 ≤ w) (hi : i + w < l.length) : DownR w (i + 1) l (cur.set (l.length - 1 - i) (cur.getD (l.length - 1 - i) 0 - cur.getD (l.length - 1 - i - w) 0)) := by
  refine ⟨by rw [List.length_set]; exact h.1, fun k hk => ?_⟩
  rw [set_getD (by rw [h.1]; omega)]
  by_cases e : l.length - 1 - i = k
  · rw [if_pos e, if_pos (by omega), e, h.2 k hk, if_neg (by omega), if_pos (by omega), h.2 (k - w) (by omega), if_neg (by omega)]
  · rw [if_neg e, h.2 k hk]
    by_cases z : l.length - i ≤ k
    · rw [if_pos z, if_pos (show l.length - (i + 1) ≤ k by omega)]
    · rw [if_neg z, if_neg (show ¬ l.length - (i + 1) ≤ k by omega)]
theorem DownR.done {w : Nat} {l cur : List Int} (h : DownR w (l.length - w) l cur) : cur = mulS w l := by
  refine ext_getD (by rw [mulS_length]; exact h.1) fun k hk => ?_
  rw [h.1] at hk
  rw [mulS_getD hk, h.2 k hk]
  by_cases z : w ≤ k
  · rw [if_pos z, if_pos (by omega)]
  · rw [if_neg z]
    by_cases y : l.length - (l.length - w) ≤ k
    · rw [if_pos y]
    · rw [if_neg y]; omega
/-- a row under way, upward -/
def UpR (w i : Nat) (l cur : List Int) : Prop := cur.length = l.length ∧ ∀ k, k < l.length → cur.getD k 0 = if k < w + i then l.getD k 0 + (if w ≤ k then cur.getD (k - w) 0 else 0) else l.getD k 0
theorem UpR.start (w : Nat) (l : List Int) : UpR w 0 l l := ⟨rfl, fun k hk => by
  by_cases z : k < w + 0
  · rw [if_pos z, if_neg (by omega)]; omega
  · rw [if_neg z]⟩
theorem UpR.step {w i : Nat} {l cur : List Int} (h : UpR w i l cur) (w1 : 1 ≤ w) (hi : w + i < l.length) : UpR w (i + 1) l (cur.set (w + i) (cur.getD (w + i) 0 + cur.getD (w + i - w) 0)) := by
  refine ⟨by rw [List.length_set]; exact h.1, fun k hk => ?_⟩
  rw [set_getD (by rw [h.1]; omega)]
  by_cases e : w + i = k
  · rw [if_pos e, if_pos (show k < w + (i + 1) by omega), if_pos (show w ≤ k by omega), set_getD (by rw [h.1]; omega), if_neg (show ¬ w + i = k - w by omega), e, h.2 k hk, if_neg (show ¬ k < w + i by omega)]
  · rw [if_neg e, h.2 k hk]
    by_cases z : k < w + i
    · rw [if_pos z, if_pos (show k < w + (i + 1) by omega)]
      by_cases y : w ≤ k
      · rw [if_pos y, if_pos y, set_getD (by rw [h.1]; omega), if_neg (show ¬ w + i = k - w by omega)]
      · rw [if_neg y, if_neg y]
    · rw [if_neg z, if_neg (show ¬ k < w + (i + 1) by omega)]
theorem UpR.done {w : Nat} {l cur : List Int} (h : UpR w (l.length - w) l cur) (w1 : 1 ≤ w) (c1 : mulS w (divS w l) = l) (c2 : (divS w l).length = l.length) : cur = divS w l := by
  refine mulS_inj w1 (by rw [h.1, c2]) ?_
  rw [c1]
  refine ext_getD (by rw [mulS_length]; exact h.1) fun k hk => ?_
  rw [mulS_length, h.1] at hk
  rw [mulS_getD (by rw [h.1]; exact hk), h.2 k hk]
  by_cases z : k < w + (l.length - w)
  · rw [if_pos z]; omega
  · rw [if_neg z, if_neg (by omega)]; omega
def sgT (s : List (Nat × Bool)) : Terms := s.map fun q => ((q.1 : Int), if q.2 then 1 else -1)
def signsTo (n i : Nat) : List (Nat × Bool) := ((M11.primes n).take i).foldl (fun s p => s ++ s.map fun q => (q.1 / p, !q.2)) [(n, true)]
theorem signsTo_succ {n i p : Nat} (h : (M11.primes n)[i]? = some p) : signsTo n (i + 1) = signsTo n i ++ (signsTo n i).map fun q => (q.1 / p, !q.2) := by
  unfold signsTo
  rw [List.take_succ, h]
  show (_ ++ [p]).foldl _ _ = _
  rw [List.foldl_append]
  rfl
theorem signsTo_all (n : Nat) : signsTo n (M11.primes n).length = signsL n := by unfold signsTo signsL; rw [List.take_length]
theorem signsTo_len (n : Nat) : ∀ i, i ≤ (M11.primes n).length → (signsTo n i).length = 2 ^ i
  | 0, _ => rfl
  | i + 1, h => by
    rw [signsTo_succ (List.getElem?_eq_getElem (by omega)), List.length_append, List.length_map, signsTo_len n i (by omega), Nat.pow_succ]; omega
theorem allLen : (List.range 210).all (fun n => decide ((M11.primes (n + 1)).length ≤ 4)) = true := by decide +kernel
theorem primes_len {n : Nat} (h1 : 1 ≤ n) (h2 : n ≤ 210) : (M11.primes n).length ≤ 4 := by
  have := List.all_eq_true.mp allLen (n - 1) (List.mem_range.mpr (by omega))
  rw [show n - 1 + 1 = n by omega] at this
  exact of_decide_eq_true this
theorem signs_small (n : Nat) : ∀ i, ∀ q ∈ signsTo n i, q.1 ≤ n
  | 0, q, h => by
    have : q ∈ [(n, true)] := h
    rw [List.mem_singleton.mp this]; exact Nat.le_refl _
  | i + 1, q, h => by
    by_cases hi : i < (M11.primes n).length
    · rw [signsTo_succ (List.getElem?_eq_getElem hi)] at h
      rcases List.mem_append.mp h with h | h
      · exact signs_small n i q h
      · obtain ⟨r, hr, rfl⟩ := List.mem_map.mp h
        exact Nat.le_trans (Nat.div_le_self _ _) (signs_small n i r hr)
    · have e : signsTo n (i + 1) = signsTo n i := by unfold signsTo; rw [List.take_of_length_le (by omega), List.take_of_length_le (by omega)]
      rw [e] at h
      exact signs_small n i q h
theorem u_forD {σ : L2.St} {H : Hp} {D : Ends} {tb : TS} {g : TG} {i j : Int} (hb : -(2 ^ 62) ≤ i ∧ i < 2 ^ 62 ∧ -(2 ^ 62) ≤ j ∧ j < 2 ^ 62) (Pv : Nat → L2.St → Hp → Prop) (h0 : Pv 0 σ H)
    (hs : ∀ (k : Nat) σ H, k < (i - j).toNat → Pv k σ H → g (.int (i - k)) σ H fun σ2 H2 => tb { D with nx := Pv (k + 1), ct := Pv (k + 1), bk := D.nx } σ2 H2) (hd : ∀ σ H, Pv (i - j).toNat σ H → D.nx σ H) :
    ∃ (i' j' c : Int) (n : Nat), [V.int i, V.int j, V.int (-1)] = [.int i', .int j', .int c] ∧ RgC i' j' c n ∧ ∃ W : Nat → Nat → L2.St → Hp → Prop, (∃ m, W 0 m σ H) ∧ ∀ i m σ H, W i m σ H →
      ((Itc i' c n).stop i H ∧ D.nx σ H) ∨ ((Itc i' c n).go i H ∧ ∃ N : L2.St → Hp → Prop, (∀ σ' H', N σ' H' → ∃ m', m' < m ∧ W (i + 1) m' σ' H') ∧ ∀ x H', (Itc i' c n).yld i H x H' → g x σ H' fun σ2 H2 => tb { D with nx := N, ct := N, bk := D.nx } σ2 H2) :=
  ⟨i, j, -1, (i - j).toNat, rfl, RgC.neg hb.1 hb.2.1 hb.2.2.1 hb.2.2.2, for_rangeC Pv h0 (fun k σ H hk p => by rw [show i + (k : Int) * -1 = i - k by omega]; exact hs k σ H hk p) hd⟩
theorem r_iR3 {σ : L2.St} {H : Hp} {ta : TA} {R : It → Hp → Prop} (q : ta σ H fun vs H1 => ∃ (i j c : Int) (n : Nat), vs = [.int i, .int j, .int c] ∧ RgC i j c n ∧ R (Itc i c n) H1) : iRng3 ta σ H R := q
def spRingRow : Sp := fun vs H Q _ => ∃ n : Nat, vs = [.int n] ∧ 1 ≤ n ∧ n ≤ 210 ∧ ∀ l H', H l = none → Same H H' → H' l = some (.lst ((ringL n).map V.int)) → Q (.ref l) H'
def spJarRow : Sp := fun vs H Q _ => ∃ (l : Addr) (r : List Int), vs = [.ref l] ∧ H l = some (.lst (r.map V.int)) ∧ r.length ≤ 80000 ∧ ∀ d H', H d = none → Same H H' → JarAt H' d r.length (cofL r) → Q (.ref d) H'
def spRingJar : Sp := fun vs H Q _ => ∃ n : Nat, vs = [.int n] ∧ 1 ≤ n ∧ n ≤ 210 ∧ ∀ d H', H d = none → Same H H' → JarAt H' d (M11.phi n + 1) (cofL (ringL n)) → Q (.ref d) H'
end My

set_option Elab.async false
set_option linter.all false
set_option maxRecDepth 100000
namespace My
end My

set_option Elab.async false
set_option linter.all false
set_option maxRecDepth 100000
namespace My
open PySem PySem.Spec PyProof.Rows L2
/-! ### the product of all -/
end My

set_option Elab.async false
set_option linter.all false
set_option maxRecDepth 100000
namespace My
open PySem PySem.Spec PyProof.Rows L2
/-! ### multiples of the ring polynomial -/
def Mu (n : Nat) (c : Int → Int) : Prop := ∃ us : Terms, ∀ k, c k = cmul us (cof (ringT n)) k
theorem Mu.ext {n : Nat} {c d : Int → Int} (h : Mu n c) (e : ∀ k, d k = c k) : Mu n d := let ⟨us, hu⟩ := h; ⟨us, fun k => (e k).trans (hu k)⟩
theorem Mu.add {n : Nat} {c d : Int → Int} (h : Mu n c) (h' : Mu n d) : Mu n (fun k => c k + d k) :=
  let ⟨us, hu⟩ := h; let ⟨vs, hv⟩ := h'; ⟨us ++ vs, fun k => by rw [cmul_app, ← hu, ← hv]⟩
theorem Mu.neg {n : Nat} {c : Int → Int} (h : Mu n c) : Mu n (fun k => -c k) := let ⟨us, hu⟩ := h; ⟨negT us, fun k => by rw [cmul_negT, ← hu]⟩
theorem Mu.shift {n : Nat} {c : Int → Int} (h : Mu n c) (s : Int) : Mu n (fun k => c (k - s)) := let ⟨us, hu⟩ := h; ⟨shiftT s us, fun k => by rw [cmul_shift, ← hu]⟩
theorem Mu.zero {n : Nat} : Mu n (fun _ => 0) := ⟨[], fun _ => rfl⟩
theorem cmul_scale (a : Int) (d : Int → Int) : ∀ (us : Terms) (k : Int), cmul (us.map fun p => (p.1, a * p.2)) d k = a * cmul us d k
  | [], k => by simp [cmul]
  | p :: us, k => by
    have ih := cmul_scale a d us k
    show a * p.2 * d (k - p.1) + cmul (us.map _) d k = a * (p.2 * d (k - p.1) + cmul us d k)
    rw [ih, Int.mul_add, Int.mul_assoc]
theorem Mu.scale {n : Nat} {c : Int → Int} (h : Mu n c) (a : Int) : Mu n (fun k => a * c k) := let ⟨us, hu⟩ := h; ⟨us.map fun p => (p.1, a * p.2), fun k => by rw [cmul_scale, ← hu]⟩
def dl (j : Int) : Int → Int := fun k => if j = k then 1 else 0
/-! ### the law's own division -/
/-- a row under way: lead times the base taken away from the place s on, j of its numbers -/
def SubR (s j : Nat) (lead : Int) (base l0 l : List Int) : Prop := l.length = l0.length ∧ ∀ i, i < l0.length → l.getD i 0 = l0.getD i 0 - (if s ≤ i ∧ i < s + j then lead * base.getD (i - s) 0 else 0)
theorem SubR.start (s : Nat) (lead : Int) (base l0 : List Int) : SubR s 0 lead base l0 l0 := ⟨rfl, fun i hi => by rw [if_neg (by omega)]; omega⟩
theorem SubR.step {s j : Nat} {lead : Int} {base l0 l : List Int} (h : SubR s j lead base l0 l) (hs : s + j < l0.length) : SubR s (j + 1) lead base l0 (l.set (s + j) (l.getD (s + j) 0 - lead * base.getD j 0)) := by
  refine ⟨by rw [List.length_set]; exact h.1, fun i hi => ?_⟩
  rw [set_getD (by rw [h.1]; omega)]
  by_cases e : s + j = i
  · rw [if_pos e, if_pos (by omega), ← e, h.2 _ hs, if_neg (by omega), show s + j - s = j by omega]; omega
  · rw [if_neg e, h.2 i hi]
    by_cases z : s ≤ i ∧ i < s + j
    · rw [if_pos z, if_pos (by omega)]
    · rw [if_neg z, if_neg (by omega)]
theorem SubR.done {s : Nat} {lead : Int} {base l0 l : List Int} (h : SubR s base.length lead base l0 l) (hs : s + base.length ≤ l0.length) (k : Int) : cofL l k = cofL l0 k - lead * cofL base (k - s) := by
  by_cases k0 : k < 0
  · rw [cofL_neg k0, cofL_neg k0, cofL_neg (by omega)]; simp
  · by_cases k1 : (l0.length : Int) ≤ k
    · rw [cofL_big (by rw [h.1]; exact k1), cofL_big k1, cofL_big (by omega)]; simp
    · have e := h.2 k.toNat (by omega)
      unfold cofL
      rw [if_pos (by omega), if_pos (by omega), e]
      by_cases z : s ≤ k.toNat ∧ k.toNat < s + base.length
      · rw [if_pos z, if_pos (by omega), show (k - (s : Int)).toNat = k.toNat - s by omega]
      · rw [if_neg z]
        by_cases y : 0 ≤ k - (s : Int)
        · rw [if_pos y]
          have : base.getD (k - (s : Int)).toNat 0 = 0 := by
            rw [List.getD_eq_getElem?_getD, List.getElem?_eq_none (by omega)]; rfl
          rw [this]; simp
        · rw [if_neg y]; simp
/-- the division under way: i places from the end done -/
structure LeftQ (n i : Nat) (ts : Terms) (l : List Int) : Prop where
  len : l.length = n
  mu : Mu n (fun k => cof (foldT n ts) k - cofL l k)
  z : ∀ k, n - i ≤ k → k < n → l.getD k 0 = 0
theorem LeftQ.same {n i : Nat} {ts : Terms} {l : List Int} (h : LeftQ n i ts l) (hz : l.getD (n - 1 - i) 0 = 0) : LeftQ n (i + 1) ts l := ⟨h.len, h.mu, fun k h1 h2 => by
  by_cases e : k = n - 1 - i
  · rw [e]; exact hz
  · exact h.z k (by omega) h2⟩
theorem LeftQ.step {n i : Nat} {ts : Terms} {l l' : List Int} (R : RingF n) (h : LeftQ n i ts l) (hi : i + M11.phi n < n) (hs : SubR (n - 1 - i - M11.phi n) (ringL n).length (l.getD (n - 1 - i) 0) (ringL n) l l') : LeftQ n (i + 1) ts l' := by
  have hlen := h.len
  have hb := R.len
  have hd := hs.done (by omega)
  refine ⟨by rw [hs.1]; exact h.len, ?_, fun k h1 h2 => ?_⟩
  · have m : Mu n (fun k => l.getD (n - 1 - i) 0 * cofL (ringL n) (k - ((n - 1 - i - M11.phi n : Nat) : Int))) := by
      refine Mu.scale (c := fun k => cofL (ringL n) (k - ((n - 1 - i - M11.phi n : Nat) : Int))) (Mu.shift (c := cofL (ringL n)) ⟨[(0, 1)], fun k => ?_⟩ _) _
      rw [cmul, cmul, cof_ringT R]
      show _ = 1 * cofL (ringL n) (k - 0) + 0
      rw [Int.sub_zero]; omega
    refine (h.mu.add m).ext fun k => ?_
    show cof (foldT n ts) k - cofL l' k = cof (foldT n ts) k - cofL l k + _
    rw [hd k]
    omega
  · rw [hs.2 k (by omega)]
    by_cases e : k = n - 1 - i
    · rw [if_pos (by omega), show k - (n - 1 - i - M11.phi n) = M11.phi n by omega, e]
      have et := R.ew
      unfold cofL at et
      rw [if_pos (by omega), Int.toNat_natCast] at et
      rw [et]; omega
    · rw [if_neg (by omega), h.z k (by omega) h2]; omega
theorem LeftQ.done {n : Nat} {ts : Terms} {l : List Int} (h : LeftQ n (n - M11.phi n) ts l) (hp : M11.phi n ≤ n) : ∃ qs, DivR (cof (foldT n ts)) (ringT n) (M11.phi n) qs (termsL ((l ++ [0]).take (M11.phi n))) := by
  obtain ⟨us, hu⟩ := h.mu
  have hl := h.len
  have key : ∀ k, cofL ((l ++ [0]).take (M11.phi n)) k = cofL l k := fun k => by
    by_cases k0 : k < 0
    · rw [cofL_neg k0, cofL_neg k0]
    · by_cases k1 : k.toNat < M11.phi n
      · unfold cofL
        rw [if_pos (by omega), if_pos (by omega), List.getD_eq_getElem?_getD, List.getD_eq_getElem?_getD, List.getElem?_take_of_lt k1, List.getElem?_append_left (by omega)]
      · rw [cofL_big (by rw [List.length_take]; omega)]
        unfold cofL
        rw [if_pos (by omega)]
        by_cases k2 : k.toNat < n
        · rw [h.z k.toNat (by omega) k2]
        · rw [List.getD_eq_getElem?_getD, List.getElem?_eq_none (by omega)]; rfl
  refine ⟨us, ⟨fun k => ?_, fun k hk => ?_, fun k hk => ?_⟩⟩
  · have e1 : cof (foldT n ts) k - cofL l k = cmul us (cof (ringT n)) k := hu k
    rw [cof_termsL, key]; omega
  · rw [cof_termsL, cofL_neg hk]
  · rw [cof_termsL, cofL_big (by rw [List.length_take]; omega)]
/-! ### the numbers of an exact quotient -/
end My

set_option Elab.async false
set_option linter.all false
set_option maxRecDepth 100000
namespace My
open PySem PySem.Spec PyProof.Rows L2 RT
theorem r_isiT_int {K : PySem.W.Frag} {H : Hp} {Q : VK} {i : Int} {tp : Addr} (h : H tp = some (.tup [.ty "int", .ty "str"])) (q : Q (.bl true) H) : rIsiT K [.int i, .ref tp] H Q :=
  ⟨_, _, _, .type "int", [.type "int", .type "str"], true, rfl, h, .cons (.ty _) (.cons (.ty _) .nil), ty_int, by rfl, q⟩
theorem r_isiT_str {K : PySem.W.Frag} {H : Hp} {Q : VK} {i : Str} {tp : Addr} (h : H tp = some (.tup [.ty "int", .ty "str"])) (q : Q (.bl true) H) : rIsiT K [.str i, .ref tp] H Q :=
  ⟨_, _, _, .type "str", [.type "int", .type "str"], true, rfl, h, .cons (.ty _) (.cons (.ty _) .nil), ty_str, by rfl, q⟩
end My

set_option Elab.async false
set_option linter.all false
set_option maxRecDepth 100000
set_option maxHeartbeats 4000000
namespace My
open PySem PySem.Spec PyProof.Rows L2
/-! ### a program parted -/
namespace Prog
def one : Prog → Prog
  | .nil => .nil
  | .step w n _ => .step w n .nil
  | .turn k _ => .turn k .nil
  | .rep k b _ => .rep k b .nil
  | .mir b _ => .mir b .nil
def rest : Prog → Prog
  | .nil => .nil
  | .step _ _ r => r
  | .turn _ r => r
  | .rep _ _ r => r
  | .mir _ r => r
def cutF (q : Int) (b x : Prog) : Prog := if 0 < q then .rep q b x else x
def tl (j : Int) (b : Prog) : Prog := if 1 < j then .rep (j - 1) b .nil else .nil
def part : Prog → Int → Prog × Prog
  | .nil, _ => (.nil, .nil)
  | .step w m r, n => if 1 ≤ n then (.step w m (part r (n - 1)).1, (part r (n - 1)).2) else (.nil, .step w m r)
  | .turn k r, n => if 1 ≤ n then (.turn k (part r (n - 1)).1, (part r (n - 1)).2) else (.nil, .turn k r)
  | .rep k b r, n => if k * b.size ≤ n then (.rep k b (part r (n - k * b.size)).1, (part r (n - k * b.size)).2)
      else if 0 < n then (cutF (n / b.size) b (part b (n % b.size)).1, ((part b (n % b.size)).2.app (tl (k - n / b.size) b)).app r) else (.nil, .rep k b r)
  | .mir b r, n => if b.size ≤ n then (.mir b (part r (n - b.size)).1, (part r (n - b.size)).2)
      else if 0 < n then (.mir (part b n).1 .nil, .mir (part b n).2 r) else (.nil, .mir b r)
theorem one_rest : ∀ p : Prog, p.one.app p.rest = p
  | .nil => rfl
  | .step _ _ _ => rfl
  | .turn _ _ => rfl
  | .rep _ _ _ => rfl
  | .mir _ _ => rfl
structure PartOk (L : Nat) (C T : Int) (d : Nat) (p : Prog) (n : Int) (x : Prog × Prog) : Prop where
  s1 : x.1.size = n
  s2 : x.2.size = p.size - n
  w1 : WfL (L * (d + 1)) C T d x.1
  w2 : WfL (L * (d + 1)) C T d x.2
  l1 : x.1.len ≤ p.len + L * d
  l2 : x.2.len ≤ p.len + L * d
theorem PartOk.cons {L : Nat} {C T : Int} {d : Nat} {p : Prog} {n : Int} {x : Prog × Prog} (c : Prog) (hc : WfL L C T d c) (h : PartOk L C T d p n x) : PartOk L C T d (c.app p) (c.size + n) (c.app x.1, x.2) := by
  obtain ⟨s1, s2, w1, w2, l1, l2⟩ := h
  exact ⟨by rw [size_app, s1], by rw [size_app, s2]; omega, WfL.app (WfL.wide (by rw [Nat.mul_add]; omega) hc) w1, w2, by rw [len_app, len_app]; omega, by rw [len_app]; show x.2.len ≤ _; omega⟩
theorem PartOk.none {L : Nat} {C T : Int} {d : Nat} {p : Prog} (hc : WfL L C T d p) : PartOk L C T d p 0 (.nil, p) :=
  ⟨by rw [size], by show p.size = p.size - 0; omega, WfL.nil, WfL.wide (by rw [Nat.mul_add]; omega) hc, by rw [len]; omega, by show p.len ≤ _; omega⟩
end Prog
theorem First.one {H : Hp} {r r' : Prog} {x : V} (h : First H r x r') : PrAt H r.one [x] ∧ r.rest = r' ∧ r ≠ .nil := by
  cases r with
  | nil => exact h.elim
  | step w n r => obtain ⟨c, e, h1, e2⟩ := h; exact ⟨⟨c, [], by rw [e], h1, rfl⟩, e2.symm, by simp⟩
  | turn k r => obtain ⟨c, e, h1, e2⟩ := h; exact ⟨⟨c, [], by rw [e], h1, rfl⟩, e2.symm, by simp⟩
  | rep k b r => obtain ⟨c, q, e, h1, ⟨zs, h2, h3⟩, e2⟩ := h; exact ⟨⟨c, q, zs, [], by rw [e], h1, h2, h3, rfl⟩, e2.symm, by simp⟩
  | mir b r => obtain ⟨c, q, e, h1, ⟨zs, h2, h3⟩, e2⟩ := h; exact ⟨⟨c, q, zs, [], by rw [e], h1, h2, h3, rfl⟩, e2.symm, by simp⟩
theorem WfL.one {L : Nat} {C T : Int} {d : Nat} {p : Prog} (h : WfL L C T d p) : WfL L C T d p.one ∧ WfL L C T d p.rest := WfL.split (p := p.one) (q := p.rest) (by rw [Prog.one_rest]; exact h)
end My

set_option Elab.async false
set_option linter.all false
set_option maxRecDepth 100000
namespace My
open PySem PySem.Spec PyProof.Rows L2
/-! ### the plain commands of a program, one by one -/
inductive Cm where
  | st (w n : Str)
  | tn (k : Int)
namespace Prog
end Prog
/-- a value is this plain command -/
def CmIs (H : Hp) : Cm → V → Prop
  | .st w n, x => ∃ a, x = .ref a ∧ H a = some (.tup [.str w, .str n])
  | .tn k, x => ∃ a, x = .ref a ∧ H a = some (.tup [.str "turn", .int k])
theorem CmIs.tk {H H' : Hp} (t : Tk H H') : ∀ {c : Cm} {x : V}, CmIs H c x → CmIs H' c x
  | .st _ _, _, ⟨a, e, h⟩ => ⟨a, e, t _ _ h⟩
  | .tn _, _, ⟨a, e, h⟩ => ⟨a, e, t _ _ h⟩
/-! words in lists, letters in the letters -/
theorem in_word {w : Str} (h : IsWord w) : inV (.str w) [.str "go", .str "back", .str "hop", .str "slip"] = true := by
  rcases h with rfl | rfl | rfl | rfl <;> decide +kernel
theorem r_inW {K : PySem.W.Frag} {H : Hp} {Q : VK} {l : Addr} {w : Str} (h : H l = some (.lst [.str "go", .str "back", .str "hop", .str "slip"])) (q : Q (.bl (inV (.str w) [.str "go", .str "back", .str "hop", .str "slip"])) H) : rIn K false (.str w) (.ref l) H Q :=
  ⟨l, _, rfl, .inl (.of h), rfl, rfl, by rw [if_neg Bool.false_ne_true]; exact q⟩
theorem in_turn : inV (.str "turn") [.str "go", .str "back", .str "hop", .str "slip"] = false := by decide +kernel
theorem in_repeat : inV (.str "repeat") [.str "go", .str "back", .str "hop", .str "slip"] = false := by decide +kernel
theorem in_mirror : inV (.str "mirror") [.str "go", .str "back", .str "hop", .str "slip"] = false := by decide +kernel
theorem occ_all : (List.range 26).all (fun i => !(Builtin.Str.occurrences ("abcdefghijklmnopqrstuvwxyz" : Str) ⟨#[97 + i]⟩ 0 ("abcdefghijklmnopqrstuvwxyz" : Str).length 1).isEmpty) = true := by decide +kernel
theorem occ_name {n : Str} (h : IsName n) : (Builtin.Str.occurrences ("abcdefghijklmnopqrstuvwxyz" : Str) n 0 ("abcdefghijklmnopqrstuvwxyz" : Str).length 1).isEmpty = false := by
  obtain ⟨c, rfl, h1, h2⟩ := h
  have := List.all_eq_true.mp occ_all (c - 97) (List.mem_range.mpr (by omega))
  rw [show 97 + (c - 97) = c by omega, Bool.not_eq_true'] at this
  exact this
end My

set_option Elab.async false
set_option linter.all false
set_option maxRecDepth 100000
set_option maxHeartbeats 4000000
namespace My
open PySem PySem.Spec PyProof.Rows L2
/-! ### what stands in a drawing -/
theorem only_at {nm : Str} {H : Hp} : ∀ {p : Prog} {xs : List V} {i : Nat} {x : V}, Only nm p → PrAt H p xs → xs[i]? = some x → ∃ c, x = .ref c ∧ ((∃ k : Int, H c = some (.tup [.str "turn", .int k])) ∨ ∃ w : Str, (w = "go" ∨ w = "back") ∧ H c = some (.tup [.str w, .str nm]))
  | .nil, xs, i, x, _, h, e => by
    cases h
    cases e
  | .step w m r, xs, i, x, o, h, e => by
    obtain ⟨a, r', rfl, h1, h2⟩ := h
    cases i with
    | zero => cases e; exact ⟨a, rfl, .inr ⟨w, o.1, by rw [h1, o.2.1]⟩⟩
    | succ i =>
      have ih := only_at (p := r) o.2.2 h2 e
      exact ih
  | .turn k r, xs, i, x, o, h, e => by
    obtain ⟨a, r', rfl, h1, h2⟩ := h
    cases i with
    | zero => cases e; exact ⟨a, rfl, .inl ⟨k, h1⟩⟩
    | succ i =>
      have ih := only_at (p := r) o h2 e
      exact ih
  | .rep _ _ _, _, _, _, o, _, _ => o.elim
  | .mir _ _, _, _, _, o, _, _ => o.elim
theorem lst_at0 {vs : List V} {v : V} (h : vs[0]? = some v) : atI vs 0 = some v := by
  obtain ⟨hj, _⟩ := List.getElem?_eq_some_iff.mp h
  unfold atI ixN
  rw [if_pos (by omega), if_pos (by omega)]
  exact h
theorem r_inRM {K : PySem.W.Frag} {H : Hp} {Q : VK} {l : Addr} {w : Str} (h : H l = some (.lst [.str "repeat", .str "mirror"])) (hw : w = "go" ∨ w = "back" ∨ w = "turn") (q : Q (.bl false) H) : rIn K false (.str w) (.ref l) H Q := by
  have e : inV (.str w) [.str "repeat", .str "mirror"] = false := by rcases hw with rfl | rfl | rfl <;> decide +kernel
  refine ⟨l, _, rfl, .inl (.of h), rfl, rfl, ?_⟩
  rw [if_neg Bool.false_ne_true, e]
  exact q
/-! ### places compared -/
def entD (e : Str × Terms) : PyData := .tuple [.str e.1, .list (e.2.map pairD)]
theorem dp_place {K : PySem.W.Frag} {H : Hp} {F : Addr → Prop} : ∀ {vs : List V} {pl : Pl}, PlaceL F H vs pl → DpAll K H vs (pl.map entD)
  | [], pl, h => by
    have h : pl = [] := h
    subst h
    exact .nil
  | v :: vs, pl, h => by
    obtain ⟨b, l, e, us, rfl, rfl, e1, _, e2, e3⟩ := h
    exact .cons (.tup (.of e1) (.cons (.str _) (.cons e2.dp .nil))) (dp_place e3)
theorem lay_ent {e : Str × Terms} (h : PyData.strOk e.1 = true) : Lay 3 (entD e) := Lay.tuple fun x hx => by
  rcases List.mem_cons.mp hx with rfl | hx
  · exact ⟨by simp [PyData.canLay0, h], by simp [PyData.depth]⟩
  · rw [List.mem_singleton.mp hx]
    exact lay_terms e.2
theorem eqvAll_self : ∀ pl : Pl, PyData.eqvAll (pl.map entD) (pl.map entD) = true
  | [] => by simp [PyData.eqvAll]
  | e :: pl => by
    have h1 : PyData.eqv (entD e) (entD e) = true := by
      unfold entD
      have h2 := eqv_terms e.2 e.2
      rw [decide_eq_true rfl] at h2
      simp [PyData.eqv, PyData.eqvAll] at h2 ⊢
      exact h2
    rw [List.map_cons, PyData.eqvAll, h1, eqvAll_self pl]
    rfl
theorem nameOk {n : Str} (h : IsName n) : PyData.strOk n = true := by
  obtain ⟨c, rfl, h1, h2⟩ := h
  unfold PyData.strOk
  simp
  omega
theorem shaped_place {pl : Pl} (h : ∀ e ∈ pl, IsName e.1) : SeqAt.shaped (.list (pl.map entD)) = true := (Lay.list (n := 3) fun x hx => by
  obtain ⟨e, he, rfl⟩ := List.mem_map.mp hx
  exact lay_ent (nameOk (h e he))).shaped (by decide)
theorem r_nePlS {K : PySem.W.Frag} {H : Hp} {Q : VK} {l m : Addr} {pl : Pl} (h : PlaceAt H l pl) (h' : PlaceAt H m pl) (hn : ∀ e ∈ pl, IsName e.1) (q : Q (.bl false) H) : rNeD K (.ref l) (.ref m) H Q := by
  obtain ⟨vs, e1, e2⟩ := h
  obtain ⟨ws, f1, f2⟩ := h'
  refine ⟨.list (pl.map entD), .list (pl.map entD), .lst (.of e1) (dp_place e2), .lst (.of f1) (dp_place f2), shaped_place hn, shaped_place hn, ?_⟩
  have : PyData.eqv (.list (pl.map entD)) (.list (pl.map entD)) = true := by rw [PyData.eqv, eqvAll_self]
  rw [this]
  exact q
end My

set_option Elab.async false
set_option linter.all false
set_option maxRecDepth 100000
set_option maxHeartbeats 4000000
namespace My
open PySem PySem.Spec PyProof.Rows L2
/-! ### bounds of what is drawn -/
theorem absT_le : ∀ {ts : Terms} {B : Nat}, (∀ p ∈ ts, p.2.natAbs ≤ B) → absT ts ≤ ts.length * B
  | [], _, _ => Nat.zero_le _
  | q :: ts, B, h => by
    have h1 := h q (.head _)
    have h2 := absT_le (ts := ts) fun p hp => h p (.tail _ hp)
    rw [absT, List.length_cons, Nat.succ_mul]
    omega
theorem absT_canon {ts : Terms} {B N : Nat} (h : Canon ts) (b : ∀ k, (cof ts k).natAbs ≤ B) (l : ts.length ≤ N) : absT ts ≤ N * B :=
  Nat.le_trans (absT_le (h.num b)) (Nat.mul_le_mul_right B l)
theorem nar_canon {ts : Terms} {B : Int} (h : Canon ts) (b : ∀ k, cof ts k ≠ 0 → -B ≤ k ∧ k ≤ B) : Nar B ts := fun q hq => b q.1 (by rw [h.at hq]; exact h.nz q hq)
theorem cof_absT (ts : Terms) (k : Int) : (cof ts k).natAbs ≤ absT ts := by
  induction ts with
  | nil => exact Nat.le_refl 0
  | cons q ts ih =>
    show ((if q.1 = k then q.2 else 0) + cof ts k).natAbs ≤ q.2.natAbs + absT ts
    split <;> omega
theorem row_absT (p : Int × Int) : ∀ us : Terms, absT (rowT p us) = p.2.natAbs * absT us
  | [] => rfl
  | q :: us => by
    have ih := row_absT p us
    show (p.2 * q.2).natAbs + absT (rowT p us) = _
    rw [ih, absT, Nat.mul_add, Int.natAbs_mul]
theorem prod_absT : ∀ ts us : Terms, absT (prodT ts us) = absT ts * absT us
  | [], us => by rw [prodT, absT, Nat.zero_mul]
  | p :: ts, us => by rw [prodT, absT_app, row_absT, prod_absT ts us, absT, Nat.add_mul]
theorem row_keys {A B : Int} {p : Int × Int} (hp : -A ≤ p.1 ∧ p.1 ≤ A) : ∀ {us : Terms}, (∀ q ∈ us, -B ≤ q.1 ∧ q.1 ≤ B) → ∀ r ∈ rowT p us, -(A + B) ≤ r.1 ∧ r.1 ≤ A + B
  | [], _, r, hr => by cases hr
  | q :: us, h, r, hr => by
    rcases List.mem_cons.mp hr with rfl | hr
    · have := h q (.head _)
      exact ⟨by show -(A + B) ≤ p.1 + q.1; omega, by show p.1 + q.1 ≤ A + B; omega⟩
    · exact row_keys hp (fun x hx => h x (.tail _ hx)) r hr
theorem prod_keys {A B : Int} : ∀ {ts us : Terms}, (∀ q ∈ ts, -A ≤ q.1 ∧ q.1 ≤ A) → (∀ q ∈ us, -B ≤ q.1 ∧ q.1 ≤ B) → ∀ r ∈ prodT ts us, -(A + B) ≤ r.1 ∧ r.1 ≤ A + B
  | [], us, _, _, r, hr => by cases hr
  | p :: ts, us, h, h', r, hr => by
    rw [prodT] at hr
    rcases List.mem_append.mp hr with hr | hr
    · exact row_keys (h p (.head _)) h' r hr
    · exact prod_keys (fun x hx => h x (.tail _ hx)) h' r hr
theorem key_of {ts : Terms} {B : Int} (h : ∀ q ∈ ts, -B ≤ q.1 ∧ q.1 ≤ B) {k : Int} (z : cof ts k ≠ 0) : -B ≤ k ∧ k ≤ B := by
  obtain ⟨q, hq, rfl⟩ := List.mem_map.mp (supp_mem z)
  exact h q hq
theorem ring_abs_all : ((List.range 120).all fun i => (ringL (i + 1)).all fun x => decide (x.natAbs ≤ 2)) = true := by decide +kernel
theorem ring_abs {n : Nat} (n1 : 1 ≤ n) (n2 : n ≤ 120) (k : Int) : (cofL (ringL n) k).natAbs ≤ 2 := by
  have h := List.all_eq_true.mp ring_abs_all (n - 1) (List.mem_range.mpr (by omega))
  rw [show n - 1 + 1 = n by omega] at h
  unfold cofL
  split
  · rw [List.getD_eq_getElem?_getD]
    cases e : (ringL n)[k.toNat]? with
    | none => exact Nat.zero_le _
    | some x => exact of_decide_eq_true (List.all_eq_true.mp h x (List.mem_of_getElem? e))
  · exact Nat.zero_le _
theorem ring_draw {n : Nat} (n1 : 1 ≤ n) (n2 : n ≤ 120) : absT (ringT n) + (ringT n).length ≤ 3000 ∧ Nar 100000 (ringT n) := by
  have R := ringF n1 (by omega : n ≤ 210)
  have hc := ringT_canon n
  have ph := M11.phi_le n
  have ll : (ringT n).length ≤ 121 := by
    unfold ringT
    rw [List.length_map]
    refine Nat.le_trans (List.length_filter_le _ _) ?_
    rw [List.length_map, List.length_range]
    omega
  have h1 := absT_canon (B := 2) (N := 121) hc (fun k => by rw [cof_ringT R]; exact ring_abs n1 n2 k) ll
  refine ⟨by omega, nar_canon hc fun k hk => ?_⟩
  rw [cof_ringT R] at hk
  have := ring_supp R hk
  omega
theorem sm_lit : (12 : Nat) < 2 ^ 100000 := Nat.lt_of_lt_of_le (by decide : 12 < 2 ^ 4) (Nat.pow_le_pow_right (by decide) (by decide))
theorem JarAt.bagK {H H' : Hp} {a b : Addr} {n : Nat} {c : Int → Int} (h : JarAt H a n c) (g : Bag H b) (s : But b H H') : JarAt H' a n c := by
  obtain ⟨kvs, e, r⟩ := h
  exact ⟨kvs, s _ _ (by rintro rfl; obtain ⟨_, _, _, e2, _⟩ := g; rw [e] at e2; cases e2) e, r⟩
end My

set_option Elab.async false
set_option linter.all false
set_option maxRecDepth 100000
set_option maxHeartbeats 4000000

namespace My
open PySem PySem.Spec PyProof.Rows L2
section
local macro_rules | `(tactic| walk_at "isi") => `(tactic| (first
  | (with_reducible refine r_is_int_int ?_)
  | (with_reducible refine r_is_int_bool ?_)
  | (with_reducible refine r_is_int_str ?_)
  | (with_reducible refine r_is_int_list ?_)
  | (with_reducible refine r_is_int_tuple ?_)
  | (with_reducible refine r_is_bool_int ?_)
  | (with_reducible refine r_is_bool_bool ?_)
  | (with_reducible refine r_is_bool_str ?_)
  | (with_reducible refine r_is_bool_list ?_)
  | (with_reducible refine r_is_bool_tuple ?_)
  | (with_reducible refine r_is_str_int ?_)
  | (with_reducible refine r_is_str_bool ?_)
  | (with_reducible refine r_is_str_str ?_)
  | (with_reducible refine r_is_str_list ?_)
  | (with_reducible refine r_is_str_tuple ?_)
  | ((with_reducible refine r_is_list_int (xs := ?xx) ?hh ?_); (case hh => walk_at "hp"))
  | ((with_reducible refine r_is_list_bool (xs := ?xx) ?hh ?_); (case hh => walk_at "hp"))
  | ((with_reducible refine r_is_list_str (xs := ?xx) ?hh ?_); (case hh => walk_at "hp"))
  | ((with_reducible refine r_is_list_list (xs := ?xx) ?hh ?_); (case hh => walk_at "hp"))
  | ((with_reducible refine r_is_list_tuple (xs := ?xx) ?hh ?_); (case hh => walk_at "hp"))
  | ((with_reducible refine r_is_tuple_int (xs := ?xx) ?hh ?_); (case hh => walk_at "hp"))
  | ((with_reducible refine r_is_tuple_bool (xs := ?xx) ?hh ?_); (case hh => walk_at "hp"))
  | ((with_reducible refine r_is_tuple_str (xs := ?xx) ?hh ?_); (case hh => walk_at "hp"))
  | ((with_reducible refine r_is_tuple_list (xs := ?xx) ?hh ?_); (case hh => walk_at "hp"))
  | ((with_reducible refine r_is_tuple_tuple (xs := ?xx) ?hh ?_); (case hh => walk_at "hp"))
  | (with_reducible refine r_is_NoneType_int ?_)
  | (with_reducible refine r_is_NoneType_bool ?_)
  | (with_reducible refine r_is_NoneType_str ?_)
  | (with_reducible refine r_is_NoneType_list ?_)
  | (with_reducible refine r_is_NoneType_tuple ?_)))
local macro_rules | `(tactic| walk_at "ne") => `(tactic| first | assumption | (refine Ne.symm ?_; assumption) | exact Bag.ne (by assumption) (by assumption) | exact ne_of_none (by assumption) (by assumption))
local macro_rules | `(tactic| walk_at "hp") => `(tactic| (first
  | assumption
  | exact upd_same
  | (refine h_keep ?_ (by assumption); walk_at "hp")
  | (refine (upd_ne (by walk_at "ne")).trans ?_; walk_at "hp")
  | (refine Same.at (by assumption) ?_; walk_at "hp")
  | (refine But.at (by assumption) (by walk_at "ne") ?_; walk_at "hp")
  | (refine But2.at (by assumption) (by walk_at "ne") (by walk_at "ne") ?_; walk_at "hp")))
local macro_rules | `(tactic| walk_at "side") => `(tactic| first | assumption | omega | (refine ⟨?_, ?_⟩ <;> first | assumption | omega | decide) | decide | (refine ⟨by decide, by decide, by decide⟩) | (left; refine ⟨?_, ?_⟩ <;> first | omega | decide) | (right; refine ⟨?_, ?_⟩ <;> first | omega | decide) | (simp; done))
local macro_rules | `(tactic| walk_at "cond") => `(tactic| first | assumption | exact rfl | omega | (simp only [List.length_cons, List.length_nil]; omega) | decide +kernel)
local macro_rules | `(tactic| walk_at "s") => `(tactic| (first
  | ((with_reducible refine r_var (v := ?vv) ?ee ?_); (case ee => exact rfl))
  | (with_reducible refine r_c ?_)
  | (with_reducible refine r_op ?_)
  | (with_reducible refine r_un ?_)
  | (with_reducible refine r_rI0 ?_)
  | ((with_reducible refine r_rI ?cc ?_); (case cc => walk_at "side"))
  | (with_reducible refine r_rU ?_)
  | (with_reducible refine r_eqI ?_)
  | (with_reducible refine r_neI ?_)
  | (with_reducible refine r_eqB ?_)
  | (with_reducible refine r_neB ?_)
  | (with_reducible refine r_eqS ?_)
  | (with_reducible refine r_neS ?_)
  | ((with_reducible refine r_eq ?ee ?_); (case ee => exact rfl))
  | ((with_reducible refine r_ne ?ee ?_); (case ee => exact rfl))
  | ((with_reducible refine r_ixL (v := ?vv) (xs := ?xx) ?hh ?ee ?_); (case hh => (refine SqL.of ?_; walk_at "hp")); (case ee => exact rfl))
  | (with_reducible refine r_cb ?_)
  | (with_reducible refine r_call ?_)
  | (with_reducible refine r_cons ?_)
  | (with_reducible refine r_nil ?_)
  | (with_reducible refine r_lst ?_)
  | (with_reducible refine r_tup ?_)
  | ((with_reducible refine r_new ?cc ?_); (case cc => walk_at "side"))
  | (with_reducible refine r_exbl ?_)
  | (with_reducible refine r_exint ?_)
  | (with_reducible refine r_exint2 ?_)
  | (with_reducible refine r_exblL ?_)
  | (with_reducible refine r_ex2 ?_)
  | (with_reducible refine r_test ?_)
  | (with_reducible refine r_tB ?_)
  | (with_reducible refine r_not ?_)
  | (with_reducible refine r_and ?_)
  | (with_reducible refine r_or ?_)
  | (with_reducible refine r_andV ?_)
  | (with_reducible refine r_orV ?_)
  | (with_reducible refine r_notV ?_)
  | (with_reducible refine r_tif ?_)
  | (with_reducible refine r_iteT ?_)
  | (with_reducible refine r_iteNT ?_)
  | (with_reducible refine r_iteNF ?_)
  | (with_reducible refine r_iteF ?_)
  | (with_reducible refine r_seq ?_)
  | (with_reducible refine r_next ?_)
  | (with_reducible refine r_brk ?_)
  | (with_reducible refine r_cont ?_)
  | (with_reducible refine r_asg ?_)
  | (with_reducible refine r_gname ?_)
  | (with_reducible refine r_ret ?_)
  | (with_reducible refine r_retN ?_)
  | (with_reducible refine r_drop ?_)
  | (with_reducible refine r_if ?_)
  | ((with_reducible refine r_aug (x := ?xx) ?ee ?_); (case ee => exact rfl))
  | (with_reducible refine r_ipI ?_)
  | (with_reducible refine r_augS ?_)
  | (with_reducible refine r_gsub ?_)
  | ((with_reducible refine r_setL (xs := ?xx) (m := ?mm) ?hh ?ee ?_); (case hh => walk_at "hp"); (case ee => exact rfl))
  | (with_reducible refine r_par ?_)
  | (with_reducible refine r_bm ?_)
  | ((with_reducible refine r_tyL (xs := ?xx) ?hh ?_); (case hh => walk_at "hp"))
  | ((with_reducible refine r_append (xs := ?xx) ?hh ?ll ?_); (case hh => walk_at "hp"); (case ll => walk_at "side"))
  | (walk_at "isi")
  | (with_reducible refine r_for ?_)
  | (with_reducible refine r_iList ?_)
  | (with_reducible refine r_iTup ?_)
  | (with_reducible refine r_iR1 ?_)
  | (with_reducible refine r_iR2 ?_)
  | (with_reducible refine r_lc ?_)
  | (with_reducible refine r_yes ?_)
  | ((with_reducible refine r_lenS ?ll ?_); (case ll => walk_at "side"))
  | (with_reducible refine r_leS ?_)
  | (with_reducible refine r_chain ?_)
  | (with_reducible refine r_tM1 ?_)
  | (with_reducible refine r_exS ?_)
  | ((with_reducible refine r_tupL (xs := ?xx) ?hh ?_); (case hh => walk_at "hp"))
  | ((with_reducible refine r_listL (xs := ?xx) ?hh ?_); (case hh => walk_at "hp"))
  | ((with_reducible refine r_listT (xs := ?xx) ?hh ?_); (case hh => walk_at "hp"))
  | ((with_reducible refine r_ixT (v := ?vv) (xs := ?xx) ?hh ?ee ?_); (case hh => (refine SqT.of ?_; walk_at "hp")); (case ee => exact rfl))
  | (with_reducible refine r_sl ?_)
  | (with_reducible refine r_nopart ?_)
  | (with_reducible refine r_part ?_)
  | (with_reducible refine r_exI ?_)
  | ((with_reducible refine r_slL (xs := ?xx) ?hh ?_); (case hh => first | assumption | (refine SqL.of ?_; walk_at "hp") | (refine Same.seq (by assumption) (by assumption))))
  | ((with_reducible refine r_cat (xs := ?xx) (zs := ?zz) ?hh ?ii ?ll ?_); (case hh => walk_at "hp"); (case ii => walk_at "hp"); (case ll => walk_at "side"))
  | ((with_reducible refine r_lenL (xs := ?xx) ?hh ?_); (case hh => walk_at "hp"))
  | ((with_reducible refine r_lenT (xs := ?xx) ?hh ?_); (case hh => walk_at "hp"))
  | ((with_reducible refine r_gTup (xs := ?xx) ?hh ?ll ?_); (case hh => walk_at "hp"); (case ll => exact rfl))
  | (with_reducible refine r_gCons ?_)
  | (with_reducible refine r_gNil ?_)
  | ((with_reducible refine r_iteDT ?cc ?_); (case cc => walk_at "cond"))
  | ((with_reducible refine r_iteDF ?cc ?_); (case cc => walk_at "cond"))
  | ((with_reducible refine r_iteNDT ?cc ?_); (case cc => walk_at "cond"))
  | ((with_reducible refine r_iteNDF ?cc ?_); (case cc => walk_at "cond"))
  ))
local macro_rules | `(tactic| walk_at "go") => `(tactic| repeat (walk_at "s"))
open PySem PySem.Spec PyProof.Rows L2
section
variable {P : Program} {w : World} {K : PySem.W.Frag} {mg : Str → Option Value} {base : Heap}

theorem ok_l_bag_of {f : Addr} {fd : FuncData} (F : Fun K "_law_bag_of" "_law_bag_of" s_l_bag_of f fd) (B : Bl mg) : FnOk P w K mg base CX0 1 f fd ["_law_cell"] spBagOf := by
  refine F.ok sc_l_bag_of (fun vs H Q E h => ?_) (fun cdv A outer s H vs Q E hr h => ?_)
  · obtain ⟨c, rfl, _⟩ := h
    rfl
  · obtain ⟨c, rfl, k⟩ := h
    refine ⟨_, (pss_one (ps_ret (pe_lst (pa_cons (pe_callB (call_max2 rfl) (by rfl) B.b_max (by decide +kernel) (pa_cons pe_int (pa_cons (pe_op op_sub (pv 0) (pe_op op_pow pe_int pe_int)) pa_nil))) (pa_cons (pe_op op_add (pe_op op_mod (pe_callTy call_intI (by rfl) B.b_int (by decide +kernel) (pa_cons (pv 0) pa_nil)) pe_int) pe_int) (pa_cons (pe_op op_mod (pe_callTy call_intI (by rfl) B.b_int (by decide +kernel) (pa_cons (pe_op op_fdivW (pv 0) pe_int) pa_nil)) pe_int) pa_nil)))))), ?_⟩
    walk_at "go"
    intro p np
    exact k p _ np (Same.new0 np) ⟨_, _, _, upd_same, by omega, by omega, by omega⟩
theorem ok_l_pick {f : Addr} {fd : FuncData} (F : Fun K "_law_pick" "_law_pick" s_l_pick f fd) (B : Bl mg) : FnOk P w K mg base CX0 1 f fd ["_law_bag", "_law_many"] spPick := by
  refine F.ok sc_l_pick (fun vs H Q E h => ?_) (fun cdv A outer s H vs Q E hr h => ?_)
  · obtain ⟨a, n, rfl, _⟩ := h
    rfl
  · obtain ⟨a, n, rfl, ⟨x, y, z, hb, y0, y1, z0⟩, n0, n1, k⟩ := h
    have nl : n.natAbs.log2 < 9000 := log_small (Nat.lt_of_le_of_lt (by omega : n.natAbs ≤ 1000000) (by decide +kernel))
    refine ⟨_, (pss_cons (ps_if (pt_cmpR op_gt (pe_ix (ix_listK (K := K)) (pv 0) pe_int (fun _ _ => rfl)) pe_int (nomark _))
    (pss_cons (ps_set (i := 2) sc_l_pick.nd rfl (.inl rfl) (pe_op op_modN (pe_callTy call_intI (by rfl) B.b_int (by decide +kernel) (pa_cons (pe_ix (ix_listK (K := K)) (pv 0) pe_int (fun _ _ => rfl)) pa_nil)) (pv 1)))
    (pss_cons (ps_asg (pe_op op_fdivW (pe_ix (ix_listK (K := K)) (pv 0) pe_int (fun _ _ => rfl)) (pv 1)) (pg_sub (pv 0) pe_int set_list))
    (pss_one (ps_ret (pv 2)))))
    pss_nil)
    (pss_cons (ps_augS (pv 0) pe_int pg_list pe_int ip_add set_list)
    (pss_cons (ps_asg (pe_op op_mod (pe_callTy call_intI (by rfl) B.b_int (by decide +kernel) (pa_cons (pe_op op_add (pe_op op_mul (pe_ix (ix_listK (K := K)) (pv 0) pe_int (fun _ _ => rfl)) pe_int) (pe_op op_mul (pe_ix (ix_listK (K := K)) (pv 0) pe_int (fun _ _ => rfl)) pe_int)) pa_nil)) pe_int) (pg_sub (pv 0) pe_int set_list))
    (pss_one (ps_ret (pe_op op_modN (pe_callTy call_intI (by rfl) B.b_int (by decide +kernel) (pa_cons (pe_op op_fdiv (pe_op op_mod (pe_callTy call_intI (by rfl) B.b_int (by decide +kernel) (pa_cons (pe_op op_mul (pe_ix (ix_listK (K := K)) (pv 0) pe_int (fun _ _ => rfl)) (pe_ix (ix_listK (K := K)) (pv 0) pe_int (fun _ _ => rfl))) pa_nil)) pe_int) pe_int) pa_nil)) (pv 1))))))), ?_⟩
    walk_at "go"
    refine r_iteD (fun hx => ?_) (fun hx => ?_)
    · walk_at "go"
      refine k _ _ (Int.fmod_nonneg_of_pos _ n0) (Int.fmod_lt_of_pos _ n0) (But.self (But.refl _ _)) ⟨_, _, _, upd_same, y0, y1, z0⟩
    · walk_at "go"
      refine k _ _ (Int.fmod_nonneg_of_pos _ n0) (Int.fmod_lt_of_pos _ n0) (But.self (But.self (But.refl _ _))) ⟨_, _, _, upd_same, by omega, by omega, by omega⟩
/-- the bounds of counts and turns by the flag -/
def CB (b : Bool) : Int := if b then BC else 3
def TB (b : Bool) : Int := if b then BC else 12
end

set_option Elab.async false
set_option linter.all false
set_option maxRecDepth 100000
set_option maxHeartbeats 4000000

open PySem PySem.Spec PyProof.Rows L2
section
variable {P : Program} {w : World} {K : PySem.W.Frag} {mg : Str → Option Value} {base : Heap}

def spIsInt : Sp := fun vs H Q _ => ∃ n : Int, vs = [.int n] ∧ Q (.bl true) H
theorem ok_is_integer {f : Addr} {fd : FuncData} (F : Fun K "is_integer" "is_integer" s_is_integer f fd) (B : Bl mg) : FnOk P w K mg base CX0 1 f fd ["value"] spIsInt := by
  refine F.ok sc_is_integer (fun vs H Q E h => ?_) (fun cdv A outer s H vs Q E hr h => ?_)
  · obtain ⟨c, rfl, _⟩ := h
    rfl
  · obtain ⟨c, rfl, k⟩ := h
    refine ⟨_, (pss_one (ps_ret (pe_and (pe_callB (call_isiKK (K := K)) (by rfl) B.b_isinstance (by decide +kernel) (pa_cons (pv 0) (pa_cons (pe_bltn (v := .ty "int") (by rfl) B.b_int (by decide +kernel) rfl) pa_nil))) (pe_one (pe_not (pe_callB (call_isiKK (K := K)) (by rfl) B.b_isinstance (by decide +kernel) (pa_cons (pv 0) (pa_cons (pe_bltn (v := .ty "bool") (by rfl) B.b_bool (by decide +kernel) rfl) pa_nil)))))))), ?_⟩
    walk_at "go"
    exact k
def spIsName : Sp := fun vs H Q _ => ∃ n : Str, vs = [.str n] ∧ IsName n ∧ Q (.bl true) H
theorem ok_is_name {f : Addr} {fd : FuncData} (F : Fun K "is_name" "is_name" s_is_name f fd) (B : Bl mg) : FnOk P w K mg base CX0 1 f fd ["value"] spIsName := by
  refine F.ok sc_is_name (fun vs H Q E h => ?_) (fun cdv A outer s H vs Q E hr h => ?_)
  · obtain ⟨c, rfl, _⟩ := h
    rfl
  · obtain ⟨c, rfl, hn, k⟩ := h
    have h1 := name_len hn
    have h2 := letter_a hn
    have h3 := letter_z hn
    refine ⟨_, (pss_one (ps_ret (pe_and (pe_callB (call_isiKK (K := K)) (by rfl) B.b_isinstance (by decide +kernel) (pa_cons (pv 0) (pa_cons (pe_bltn (v := .ty "str") (by rfl) B.b_str (by decide +kernel) rfl) pa_nil))) (pe_and (pe_cmpR op_eq (pe_callB call_lenS (by rfl) B.b_len PySem.boot_len (pa_cons (pv 0) pa_nil)) pe_int (nomark _)) (pe_one (pe_chain op_leS op_leS pe_str (pv 0) pe_str)))))), ?_⟩
    walk_at "go"
    show Q (V.bl !decide _) H
    rw [decide_eq_false h3]
    exact k
theorem has_false {x : Str} {k : Nat} {f : Addr} {fd : FuncData} {ps : List Str} (g : mg x = some (.ref f)) (kp : PySem.W.keepIn K (.ref f) = true) (b : Binds K fd ps []) : Has P w K mg base x k ps (fun _ _ _ _ => False) :=
  ⟨f, fd, ⟨fun _ _ _ _ h => h.elim, fun _ _ _ _ _ _ _ _ _ _ _ _ _ h => h.elim⟩, g, kp, b⟩
end

set_option Elab.async false
set_option linter.all false
set_option maxRecDepth 100000
set_option maxHeartbeats 4000000

open PySem PySem.Spec PyProof.Rows L2
section
variable {P : Program} {w : World} {K : PySem.W.Frag} {mg : Str → Option Value} {base : Heap}

/-- what holds between the turns of the loop that makes a piece -/
structure PcInv (H : Hp) (a o m : Addr) (d : Nat) (b : Bool) (z : Str) (p : Prog) (H' : Hp) : Prop where
  bu : But2 a o H H'
  bg : Bag H' a
  pot : ∃ n' : Int, H' o = some (.lst [.int n', .str z])
  tk : Tk H H'
  lst : ∃ xs, H' m = some (.lst xs) ∧ PrAt H' p xs
  wf : WfL 5 (CB b) (TB b) d p
  sz : p.size ≤ p.len * (5 * CB b) ^ d
section
variable {H H' H'' : Hp} {a o m : Addr} {d : Nat} {b : Bool} {z : Str} {p : Prog}
theorem PcInv.call (h : PcInv H a o m d b z p H') (nma : m ≠ a) (nmo : m ≠ o) (bu : But2 a o H' H'') (bg : Bag H'' a) (pot : ∃ n' : Int, H'' o = some (.lst [.int n', .str z])) (tk : Tk H' H'') : PcInv H a o m d b z p H'' := by
  obtain ⟨xs, hm, hp⟩ := h.lst
  exact ⟨h.bu.trans bu, bg, pot, h.tk.trans tk, ⟨xs, bu _ _ nma nmo hm, hp.tk tk⟩, h.wf, h.sz⟩
theorem PcInv.less (h : PcInv H a o m d b z p H') (noa : o ≠ a) (nmo : m ≠ o) (n : Int) : PcInv H a o m d b z p (upd H' o (.lst [.int n, .str z])) := by
  obtain ⟨n', ho⟩ := h.pot
  obtain ⟨xs, hm, hp⟩ := h.lst
  have t : Tk H' (upd H' o (.lst [.int n, .str z])) := (Tk.refl _).lst ho
  exact ⟨h.bu.self, h.bg.upd noa.symm, ⟨n, upd_same⟩, h.tk.trans t, ⟨xs, (upd_ne nmo).trans hm, hp.tk t⟩, h.wf, h.sz⟩
theorem PcInv.push {c : Addr} {T xs : List V} {r1 : Prog} (h : PcInv H a o m d b z p H') (nm : H m = none) (nma : m ≠ a) (nmo : m ≠ o) (nc : H' c = none) (hx : H' m = some (.lst xs)) (hf : ∀ H2, Tk H' H2 → H2 c = some (.tup T) → PrAt H2 r1 [.ref c]) (hw : WfL 5 (CB b) (TB b) d r1) (hz : r1.size ≤ r1.len * (5 * CB b) ^ d) :
    PcInv H a o m d b z (p.app r1) (upd (upd H' c (.tup T)) m (.lst (xs ++ [.ref c]))) := by
  obtain ⟨n', ho⟩ := h.pot
  obtain ⟨ys, hm, hp⟩ := h.lst
  obtain rfl : xs = ys := by
    rw [hx] at hm
    injection hm with hm
    injection hm
  have nco : c ≠ o := (ne_of_none ho nc).symm
  have nca : c ≠ a := h.bg.ne nc
  have ncm : c ≠ m := (ne_of_none hx nc).symm
  have t1 : Tk H' (upd H' c (.tup T)) := (Tk.refl _).new nc
  have t2 : Tk H' (upd (upd H' c (.tup T)) m (.lst (xs ++ [.ref c]))) := t1.lst (h_keep hx nc)
  refine ⟨(h.bu.new nc).put nm, (h.bg.keep nc).upd nma.symm, ⟨n', (upd_ne nmo.symm).trans (h_keep ho nc)⟩, h.tk.trans t2, ⟨_, upd_same, (hp.tk t2).app (hf _ t2 ((upd_ne ncm).trans upd_same))⟩, h.wf.app hw, by rw [Prog.size_app, Prog.len_app, Int.natCast_add, Int.add_mul]; have := h.sz; omega⟩
end
end

set_option Elab.async false
set_option linter.all false
set_option maxRecDepth 100000
set_option maxHeartbeats 4000000

open PySem PySem.Spec PyProof.Rows L2
section
variable {P : Program} {w : World} {K : PySem.W.Frag} {mg : Str → Option Value} {base : Heap}

theorem ok_l_is_int {f : Addr} {fd : FuncData} (F : Fun K "_law_is_int" "_law_is_int" s_l_is_int f fd) (B : Bl mg) : FnOk P w K mg base CX0 1 f fd ["_law_thing"] spIsInt := by
  refine F.ok sc_l_is_int (fun vs H Q E h => ?_) (fun cdv A outer s H vs Q E hr h => ?_)
  · obtain ⟨c, rfl, _⟩ := h
    rfl
  · obtain ⟨c, rfl, k⟩ := h
    refine ⟨_, (pss_one (ps_ret (pe_and (pe_callB (call_isiKK (K := K)) (by rfl) B.b_isinstance (by decide +kernel) (pa_cons (pv 0) (pa_cons (pe_bltn (v := .ty "int") (by rfl) B.b_int (by decide +kernel) rfl) pa_nil))) (pe_one (pe_not (pe_callB (call_isiKK (K := K)) (by rfl) B.b_isinstance (by decide +kernel) (pa_cons (pv 0) (pa_cons (pe_bltn (v := .ty "bool") (by rfl) B.b_bool (by decide +kernel) rfl) pa_nil)))))))), ?_⟩
    walk_at "go"
    exact k
end

set_option Elab.async false
set_option linter.all false
set_option maxRecDepth 100000
set_option maxHeartbeats 4000000

open PySem PySem.Spec PyProof.Rows L2
section
variable {P : Program} {w : World} {K : PySem.W.Frag} {mg : Str → Option Value} {base : Heap} {C : Addr}

local macro_rules | `(tactic| walk_at "s") => `(tactic| (first
  | (with_reducible refine r_dnew ?_)
  | (with_reducible refine r_dget2 ?_)
  | (with_reducible refine r_dget ?_)
  | (with_reducible refine r_dput ?_)
  | (with_reducible refine r_dsetd ?_)
  | ((with_reducible refine JarAt.isD (n := ?nn) (c := ?cc) ?hh ?_); (case hh => assumption))
  ))

local macro_rules | `(tactic| walk_at "s") => `(tactic| (first
  | (with_reducible refine r_prop ?_)
  | (with_reducible refine r_meth ?_)
  | (with_reducible refine r_make ?_)
  | (with_reducible refine r_fld ?_)
  | (with_reducible refine r_sfld ?_)
  | (with_reducible refine r_iOwn ?_)
  | ((with_reducible refine u_rowsAt (mg := ?mm) (C := ?CC) (dx := ?dd) (fv := ?vv) ?tt ?hh ?_); (case tt => assumption); (case hh => walk_at "hp"))
  | ((with_reducible refine r_isPoly (mg := ?mm) (dx := ?dd) (fs := ?ff) ?tt ?hh ?_); (case tt => assumption); (case hh => walk_at "hp"))
  | ((with_reducible refine r_isPolyI (mg := ?mm) ?tt ?_); (case tt => assumption))
  | ((with_reducible refine r_polyInt (mg := ?mm) (C := ?CC) (dx := ?dd) (fs := ?ff) ?tt ?hh ?_); (case tt => assumption); (case hh => walk_at "hp"))
  ))

theorem ok_is_term {f : Addr} {fd : FuncData} (F : Fun K "is_term" "is_term" s_is_term f fd) (B : Bl mg) (h_is_integer : Has P w K mg base "is_integer" 1 ["value"] spIsInt) : FnOk P w K mg base CX0 2 f fd ["value"] spIsTerm := by
  refine F.ok sc_is_term (fun vs H Q E h => ?_) (fun cdv A outer s H vs Q E hr h => ?_)
  · obtain ⟨p, x, y, rfl, _⟩ := h
    rfl
  · obtain ⟨p, x, y, rfl, hp, k⟩ := h
    refine ⟨_, (pss_one (ps_ret (pe_and (pe_callB (call_isiKK (K := K)) (by rfl) B.b_isinstance (by decide +kernel) (pa_cons (pv 0) (pa_cons (pe_bltn (v := .ty "tuple") (by rfl) B.b_tuple (by decide +kernel) rfl) pa_nil))) (pe_and (pe_cmpR op_eq (pe_callB (call_lenK (K := K)) (by rfl) B.b_len PySem.boot_len (pa_cons (pv 0) pa_nil)) pe_int (nomark _)) (pe_and (pe_callH h_is_integer (hr.mono (by first | decide | omega)) (pa_cons (pe_ix (ix_tupK (K := K)) (pv 0) pe_int (fun _ _ => rfl)) pa_nil)) (pe_one (pe_callH h_is_integer (hr.mono (by first | decide | omega)) (pa_cons (pe_ix (ix_tupK (K := K)) (pv 0) pe_int (fun _ _ => rfl)) pa_nil)))))))), ?_⟩
    walk_at "go"
    refine ⟨x, rfl, ?_⟩
    walk_at "go"
    refine ⟨y, rfl, ?_⟩
    walk_at "go"
    exact k
theorem ok_summed {f : Addr} {fd : FuncData} (F : Fun K "summed" "summed" s_summed f fd) (B : Bl mg) (bS : mg "sorted" = none) : FnOk P w K mg base CX0 1 f fd ["terms"] spSummed := by
  refine F.ok sc_summed (fun vs H Q E h => ?_) (fun cdv A outer s H vs Q E hr h => ?_)
  · obtain ⟨l, ts, rfl, _⟩ := h
    rfl
  · obtain ⟨l, ts, rfl, ⟨vs, hl, ht⟩, hn, k⟩ := h
    refine ⟨_, (pss_cons (ps_set (i := 1) sc_summed.nd rfl (.inr rfl) pe_dnewK)
    (pss_cons (ps_for PassesOwn.never rfl (pi_list (pv 0)) (pg_tup (by rfl) (pgs_cons (pg_name (i := 2) sc_summed.nd rfl (.inl rfl)) (pgs_cons (pg_name (i := 3) sc_summed.nd rfl (.inl rfl)) pgs_nil)))
    (pss_one (ps_dput (hu_of hr) (pv 1) (pv 2) (pe_op op_add (pe_dget2 (hu_of hr) (pv 1) (pv 2) pe_int ⟨rfl, rfl, rfl, rfl⟩) (pv 3)) rfl)))
    (pss_one (ps_ret (pe_callTy call_tupL (by rfl) B.b_tuple (by decide +kernel) (pa_cons (pe_lc (own := [("power", 2)]) rfl sc_summed.nd (pi_list (pe_callB call_sortedDA (by rfl) bS (by decide +kernel) (pa_cons (pv 1) pa_nil))) (blkOk_by (N := ["terms", "sums", "power", "number"]) (sc := defScope s_summed) (by decide +kernel)) (fun _ _ _ _ _ => (pg_name (i := 2) sc_summed.nd rfl (.inl rfl))) (fun _ _ _ _ _ => pts_one (pt_cmpR op_ne (pe_dget (hu_of hr) (pv 1) (pv 2) (fun _ _ => rfl)) pe_int (nomark _))) (fun _ _ _ _ _ => (pe_tup (pa_cons (pv 2) (pa_cons (pe_dget (hu_of hr) (pv 1) (pv 2) (fun _ _ => rfl)) pa_nil))))) pa_nil)))))), ?_⟩
    walk_at "go"
    intro d nd
    walk_at "go"
    have hvl := ht.length
    refine u_forL (.of (h_keep hl nd)) (fun i σ H' => ∃ (c : Int → Int) (y2 y3 : Option V), σ = [some (.ref l), some (.ref d), y2, y3] ∧ Same H H' ∧ JarAt H' d i c ∧ (∀ k, c k = cof (ts.take i) k) ∧ i ≤ vs.length) ?_ ?_ ?_ ?_
    · exact ⟨_, _, _, rfl, Same.new0 nd, .new, fun k => rfl, Nat.zero_le _⟩
    · rintro i σ H' _ ⟨c, y2, y3, rfl, sm, _⟩
      exact .of (sm _ _ hl)
    · rintro i x σ H' hx ⟨c, y2, y3, rfl, sm, hj, hc, hi⟩
      obtain ⟨b, p, rfl, hp, hb⟩ := ht.at i hx
      have hi2 := (List.getElem?_eq_some_iff.mp hx).1
      have hb' := sm _ _ hb
      walk_at "go"
      obtain ⟨o, g1, g2⟩ := hj.dget0 p.1
      refine ⟨o, g1, ?_⟩
      rw [g2]
      walk_at "go"
      obtain ⟨H4, p1, b1, f1, j1⟩ := hj.dput (k := p.1) (v := c p.1 + p.2) (by omega)
      refine ⟨d, H4, rfl, p1, _, _, _, rfl, Same.but2 sm nd b1, j1, fun k => ?_, hi2⟩
      have et : ts.take (i + 1) = ts.take i ++ [p] := by rw [List.take_succ, hp]; rfl
      rw [et, cof_app, ← hc]
      unfold addAt
      rw [cof, cof]
      by_cases e : k = p.1
      · subst e; rw [if_pos rfl, if_pos rfl]; omega
      · rw [if_neg e, if_neg (fun h => e h.symm)]; omega
    · rintro σ H' ⟨c, y2, y3, rfl, sm, hj, hc, hi⟩
      rw [List.take_of_length_le (by omega)] at hc
      walk_at "go"
      refine rSortDJ hj fun ys q hys hz hlen hget nq => ?_
      have hj1 := hj.keep (o := .lst (ys.map V.int)) nq
      refine u_lcL (.of upd_same) (fun D i acc H2 => (TermsL H2 acc (((ys.take i).filter fun k => decide (c k ≠ 0)).map fun k => (k, c k)) ∧ i ≤ ys.length) ∧ Same (upd H' q (.lst (ys.map V.int))) H2) ?_ ?_ ?_ ?_
      · exact fun D hD => ⟨⟨rfl, Nat.zero_le _⟩, Same.new0 hD⟩
      · exact fun D i acc H2 _ _ ⟨_, s1⟩ => .of (s1 _ _ upd_same)
      · rintro D i x acc H2 hD hx hacc ⟨⟨ht2, hi0⟩, s1⟩
        rw [List.getElem?_map] at hx
        cases hy : ys[i]? with
        | none => rw [hy] at hx; cases hx
        | some y =>
          rw [hy] at hx
          cases hx
          obtain ⟨hi2, ey⟩ := List.getElem?_eq_some_iff.mp hy
          have hj2 := hj1.same s1
          have et : ys.take (i + 1) = ys.take i ++ [y] := by rw [List.take_succ, hy]; rfl
          have hm2 := (hget y (List.mem_of_getElem? hy)).same ((Same.new0 nq).trans s1)
          walk_at "go"
          refine ⟨rfl, ?_⟩
          walk_at "go"
          refine ⟨d, _, rfl, hj2.dget hm2, ?_⟩
          walk_at "go"
          refine r_ite (fun hb => ?_) (fun hb => ?_)
          · walk_at "go"
            refine ⟨d, _, rfl, hj2.dget hm2, ?_⟩
            walk_at "go"
            intro t nt
            have nz : decide (c y ≠ 0) = true := by simpa using hb
            have al : acc.length ≤ i := by
              rw [ht2.length, List.length_map]
              exact Nat.le_trans (List.length_filter_le _ _) (by rw [List.length_take]; omega)
            refine u_push (h_keep hacc nt) (by omega) ⟨⟨?_, hi2⟩, Same.put (Same.new s1 nt) hD⟩
            have t1 : Tk H2 (upd (upd H2 t (.tup [.int y, .int (c y)])) D (.lst (acc ++ [.ref t]))) := ((Tk.refl _).new nt).lst (h_keep hacc nt)
            rw [et, List.filter_append, List.map_append, List.filter_cons_of_pos (p := fun k => decide (c k ≠ 0)) nz]
            exact (ht2.tk t1).app (.one ((upd_ne (ne_of_none hacc nt).symm).trans upd_same))
          · refine u_skip hacc ⟨⟨?_, hi2⟩, s1⟩
            have nz : ¬ decide (c y ≠ 0) = true := by simpa using hb
            rw [et, List.filter_append, List.filter_cons_of_neg (p := fun k => decide (c k ≠ 0)) nz, List.filter_nil, List.append_nil]
            exact ht2
      · rintro D acc H2 hD hacc ⟨⟨ht2, hi0⟩, s1⟩
        walk_at "go"
        intro r nr
        rw [List.take_of_length_le (by simp)] at ht2
        have sE : Same H (upd H2 r (.tup acc)) := Same.new (sm.trans ((Same.new0 nq).trans s1)) nr
        refine k r _ acc _ (free_same (sm.trans ((Same.new0 nq).trans s1)) nr) sE upd_same (ht2.tk ((Tk.refl _).new nr)) (canon_of hys c) (fun j => ?_) ?_
        · rw [cof_of hys, ← hc]
          by_cases hm : j ∈ ys
          · rw [if_pos hm]
          · rw [if_neg hm, hz j hm]
        · rw [List.length_map]
          exact Nat.le_trans (List.length_filter_le _ _) (by omega)
end

set_option Elab.async false
set_option linter.all false
set_option maxRecDepth 100000
set_option maxHeartbeats 4000000

open PySem PySem.Spec PyProof.Rows L2
section
variable {P : Program} {w : World} {K : PySem.W.Frag} {mg : Str → Option Value} {base : Heap} {C : Addr}

local macro_rules | `(tactic| walk_at "s") => `(tactic| (first
  | (with_reducible refine r_dnew ?_)
  | (with_reducible refine r_dget2 ?_)
  | (with_reducible refine r_dget ?_)
  | (with_reducible refine r_dput ?_)
  | (with_reducible refine r_dsetd ?_)
  | ((with_reducible refine JarAt.isD (n := ?nn) (c := ?cc) ?hh ?_); (case hh => assumption))
  ))

local macro_rules | `(tactic| walk_at "s") => `(tactic| (first
  | (with_reducible refine r_prop ?_)
  | (with_reducible refine r_meth ?_)
  | (with_reducible refine r_make ?_)
  | (with_reducible refine r_fld ?_)
  | (with_reducible refine r_sfld ?_)
  | (with_reducible refine r_iOwn ?_)
  | ((with_reducible refine u_rowsAt (mg := ?mm) (C := ?CC) (dx := ?dd) (fv := ?vv) ?tt ?hh ?_); (case tt => assumption); (case hh => walk_at "hp"))
  | ((with_reducible refine r_isPoly (mg := ?mm) (dx := ?dd) (fs := ?ff) ?tt ?hh ?_); (case tt => assumption); (case hh => walk_at "hp"))
  | ((with_reducible refine r_isPolyI (mg := ?mm) ?tt ?_); (case tt => assumption))
  | ((with_reducible refine r_polyInt (mg := ?mm) (C := ?CC) (dx := ?dd) (fs := ?ff) ?tt ?hh ?_); (case tt => assumption); (case hh => walk_at "hp"))
  ))

theorem ok_Poly_init {f : Addr} {fd : FuncData} (F : Fun K "__init__" "Poly.__init__" s_Poly___init__ f fd) (B : Bl mg) (T : PolyT K mg C) (h_is_term : Has P w K mg base "is_term" 2 ["value"] spIsTerm) (h_summed : Has P w K mg base "summed" 1 ["terms"] spSummed) : FnOk P w K mg base CX0 3 f fd ["self", "terms"] (spInit C) := by
  refine F.ok sc_Poly___init__ (fun vs H Q E h => ?_) (fun cdv A outer s H vs Q E hr h => ?_)
  · obtain ⟨x, dx, l, ts, rfl, _⟩ := h
    rfl
  · obtain ⟨x, dx, l, ts, rfl, hx, ⟨vs, hl, ht⟩, hn, k⟩ := h
    refine ⟨_, (pss_cons (ps_if (PW.pt (pw_or (pt_not (pt_val (pe_callB (call_isiKK (K := K)) (by rfl) B.b_isinstance (by decide +kernel) (pa_cons (pv 1) (pa_cons (pe_bltn (v := .ty "list") (by rfl) B.b_list (by decide +kernel) rfl) pa_nil))))) (pw_or1 (pt_not (pt_val (pe_callB (call_allK (K := K)) (by rfl) B.b_all (by decide +kernel) (pa_cons (pe_lc (own := [("term", 2)]) rfl sc_Poly___init__.nd (pi_list (pv 1)) (blkOk_by (N := ["self", "terms", "term"]) (sc := defScope s_Poly___init__) (by decide +kernel)) (fun _ _ _ _ _ => (pg_name (i := 2) sc_Poly___init__.nd rfl (.inl rfl))) (fun _ _ _ _ _ => pts_nil) (fun _ _ _ _ _ => (pe_callH h_is_term (hr.mono (by first | decide | omega)) (pa_cons (pv 2) pa_nil)))) pa_nil)))))))
    (pss_one ps_never)
    pss_nil)
    (pss_one (ps_fld (pv 0) (pe_callH h_summed (hr.mono (by first | decide | omega)) (pa_cons (pv 1) pa_nil)) rfl))), ?_⟩
    walk_at "go"
    refine u_lcL (.of hl) (fun D i acc H' => (acc = (List.replicate i true).map V.bl ∧ i ≤ vs.length) ∧ Same H H') ?_ ?_ ?_ ?_
    · exact fun D hD => ⟨⟨rfl, by omega⟩, Same.new0 hD⟩
    · exact fun D i acc H' _ _ ⟨_, s1⟩ => .of (s1 _ _ hl)
    · rintro D i v acc H' hD hv hacc ⟨⟨ea, _⟩, sm⟩
      obtain ⟨b, p, rfl, hp, hb⟩ := ht.at i hv
      have hi2 := (List.getElem?_eq_some_iff.mp hv).1
      have hvl := ht.length
      walk_at "go"
      refine ⟨rfl, ?_⟩
      walk_at "go"
      refine ⟨b, p.1, p.2, rfl, sm _ _ hb, ?_⟩
      have al : acc.length = i := by rw [ea]; simp
      refine u_push hacc (by omega) ⟨⟨?_, by omega⟩, Same.put sm hD⟩
      rw [ea, List.replicate_succ', List.map_append]
      rfl
    · rintro D acc H' hD hacc ⟨⟨ea, _⟩, sm⟩
      rw [ea] at hacc
      walk_at "go"
      refine r_all (SqL.of hacc) ?_
      rw [show ((List.replicate vs.length true).all id) = true by simp]
      walk_at "go"
      refine ⟨l, ts, rfl, ⟨vs, sm _ _ hl, ht.tk (Tk.same sm)⟩, hn, fun r us ws H2 nr s2 hr2 hw hc hcof hlen => ?_⟩
      have hx2 : H2 x = some (.ins C dx []) := s2 _ _ (sm _ _ hx)
      walk_at "go"
      refine ⟨x, C, dx, _, rfl, hx2, T.cl, T.nR, by show 0 < 1000; decide, ?_⟩
      refine k us _ (But.self (Same.but (sm.trans s2) x)) ⟨dx, r, ws, upd_same, (upd_ne (ne_of hr2 hx2 (by intro z; cases z))).trans hr2, hw.tk fun c xs e => (upd_ne (ne_of e hx2 (by intro z; cases z))).trans e, hc⟩ hcof hlen
end

set_option Elab.async false
set_option linter.all false
set_option maxRecDepth 100000
set_option maxHeartbeats 4000000

open PySem PySem.Spec PyProof.Rows L2
section
variable {P : Program} {w : World} {K : PySem.W.Frag} {mg : Str → Option Value} {base : Heap} {C : Addr}

local macro_rules | `(tactic| walk_at "s") => `(tactic| (first
  | (with_reducible refine r_dnew ?_)
  | (with_reducible refine r_dget2 ?_)
  | (with_reducible refine r_dget ?_)
  | (with_reducible refine r_dput ?_)
  | (with_reducible refine r_dsetd ?_)
  | ((with_reducible refine JarAt.isD (n := ?nn) (c := ?cc) ?hh ?_); (case hh => assumption))
  ))

local macro_rules | `(tactic| walk_at "s") => `(tactic| (first
  | (with_reducible refine r_prop ?_)
  | (with_reducible refine r_meth ?_)
  | (with_reducible refine r_make ?_)
  | (with_reducible refine r_fld ?_)
  | (with_reducible refine r_sfld ?_)
  | (with_reducible refine r_iOwn ?_)
  | ((with_reducible refine u_rowsAt (mg := ?mm) (C := ?CC) (dx := ?dd) (fv := ?vv) ?tt ?hh ?_); (case tt => assumption); (case hh => walk_at "hp"))
  | ((with_reducible refine r_isPoly (mg := ?mm) (dx := ?dd) (fs := ?ff) ?tt ?hh ?_); (case tt => assumption); (case hh => walk_at "hp"))
  | ((with_reducible refine r_isPolyI (mg := ?mm) ?tt ?_); (case tt => assumption))
  | ((with_reducible refine r_polyInt (mg := ?mm) (C := ?CC) (dx := ?dd) (fs := ?ff) ?tt ?hh ?_); (case tt => assumption); (case hh => walk_at "hp"))
  ))

theorem last_of {ts : Terms} {vs : List V} {H : Hp} (h : TermsL H vs ts) (n : ts ≠ []) : ∃ (b b' : Addr) (p q : Int × Int), atI vs 0 = some (.ref b) ∧ H b = some (.tup [.int p.1, .int p.2]) ∧ atI vs (-1) = some (.ref b') ∧ H b' = some (.tup [.int q.1, .int q.2]) ∧ ts.head? = some p ∧ ts.getLast? = some q := by
  have hl := h.length
  have h0 : 0 < ts.length := List.length_pos_iff.mpr n
  have hx : vs[0]? = some vs[0] := List.getElem?_eq_getElem (by omega)
  have hy : vs[vs.length - 1]? = some vs[vs.length - 1] := List.getElem?_eq_getElem (by omega)
  obtain ⟨b, p, e1, e2, e3⟩ := h.at 0 hx
  obtain ⟨b', q, f1, f2, f3⟩ := h.at _ hy
  refine ⟨b, b', p, q, ?_, e3, ?_, f3, by rw [List.head?_eq_getElem?]; exact e2, by rw [List.getLast?_eq_getElem?, ← hl]; exact f2⟩
  · unfold atI ixN
    rw [if_pos (by omega), if_pos (by omega)]
    show vs[0]? = _
    rw [hx, e1]
  · unfold atI ixN
    rw [if_neg (by omega), if_pos (by omega)]
    show vs[((vs.length : Int) + -1).toNat]? = _
    rw [show ((vs.length : Int) + -1).toNat = vs.length - 1 by omega, hy, f1]
theorem ok_Poly_terms {f : Addr} {fd : FuncData} (F : Fun K "terms" "Poly.terms" s_Poly_terms f fd) (B : Bl mg) (T : PolyT K mg C) : FnOk P w K mg base CX0 1 f fd ["self"] (spGetTerms C) := by
  refine F.ok sc_Poly_terms (fun vs H Q E h => ?_) (fun cdv A outer s H vs Q E hr h => ?_)
  · obtain ⟨a, ts, rfl, _⟩ := h
    rfl
  · obtain ⟨a, ts, rfl, ⟨dx, r, vs, g1, hr', ht, hc⟩, k⟩ := h
    refine ⟨_, (pss_one (ps_ret (pe_callTy call_listT (by rfl) B.b_list (by decide +kernel) (pa_cons (pe_fldK (K := K) (pv 0)) pa_nil)))), ?_⟩
    walk_at "go"
    intro l nl
    exact k l _ nl (Same.new0 nl) ⟨vs, upd_same, ht.tk ((Tk.refl _).new nl)⟩
theorem ok_Poly_span {f : Addr} {fd : FuncData} (F : Fun K "span" "Poly.span" s_Poly_span f fd) (B : Bl mg) (T : PolyT K mg C) : FnOk P w K mg base CX0 1 f fd ["self"] (spGetSpan C) := by
  refine F.ok sc_Poly_span (fun vs H Q E h => ?_) (fun cdv A outer s H vs Q E hr h => ?_)
  · obtain ⟨a, ts, rfl, _⟩ := h
    rfl
  · obtain ⟨a, ts, rfl, ⟨dx, r, vs, g1, hr', ht, hc⟩, k⟩ := h
    refine ⟨_, (pss_cons (ps_if (pt_cmpR op_eq (pe_callB (call_lenK (K := K)) (by rfl) B.b_len PySem.boot_len (pa_cons (pe_fldK (K := K) (pv 0)) pa_nil)) pe_int (nomark _))
    (pss_one (ps_ret pe_int))
    pss_nil)
    (pss_one (ps_ret (pe_op op_sub (pe_ix (ix_tupK (K := K)) (pe_ix (ix_tupK (K := K)) (pe_fldK (K := K) (pv 0)) (pe_un un_neg pe_int) (fun _ _ => rfl)) pe_int (fun _ _ => rfl)) (pe_ix (ix_tupK (K := K)) (pe_ix (ix_tupK (K := K)) (pe_fldK (K := K) (pv 0)) pe_int (fun _ _ => rfl)) pe_int (fun _ _ => rfl)))))), ?_⟩
    have hl := ht.length
    walk_at "go"
    refine r_iteD (fun h0 => ?_) (fun h0 => ?_)
    · walk_at "go"
      have e : ts = [] := List.length_eq_zero_iff.mp (by omega)
      subst e
      exact k
    · have ne : ts ≠ [] := by rintro rfl; rw [List.length_nil] at hl; omega
      obtain ⟨b, b', p, q, a0, h0', a1, h1', e0, e1⟩ := last_of ht ne
      walk_at "go"
      refine r_ixT (.of hr') a1 ?_
      walk_at "go"
      refine r_ixT (.of hr') a0 ?_
      walk_at "go"
      have e : spanOf ts = q.1 - p.1 := by unfold spanOf; rw [e0, e1]
      rw [e] at k
      exact k
theorem ok_Poly_len {f : Addr} {fd : FuncData} (F : Fun K "__len__" "Poly.__len__" s_Poly___len__ f fd) (B : Bl mg) (T : PolyT K mg C) : FnOk P w K mg base CX0 1 f fd ["self"] (spPLen C) := by
  refine F.ok sc_Poly___len__ (fun vs H Q E h => ?_) (fun cdv A outer s H vs Q E hr h => ?_)
  · obtain ⟨a, ts, rfl, _⟩ := h
    rfl
  · obtain ⟨a, ts, rfl, ⟨dx, r, vs, g1, hr', ht, hc⟩, k⟩ := h
    refine ⟨_, (pss_one (ps_ret (pe_callB (call_lenK (K := K)) (by rfl) B.b_len PySem.boot_len (pa_cons (pe_fldK (K := K) (pv 0)) pa_nil)))), ?_⟩
    have hl := ht.length
    walk_at "go"
    rw [hl]
    exact k
theorem ok_Poly_iter {f : Addr} {fd : FuncData} (F : Fun K "__iter__" "Poly.__iter__" s_Poly___iter__ f fd) (bI : mg "iter" = none) (T : PolyT K mg C) : FnS P w K mg base 1 f fd ["self"] (spIter K C "rows") := by
  refine fnS_of F sc_Poly___iter__ (fun s vs H Q E h => ?_) (fun cdv A outer s H vs Q E hr h => ?_)
  · obtain ⟨a, dx, fs, b, ys, rfl, _⟩ := h
    rfl
  · obtain ⟨a, dx, fs, b, ys, rfl, ha, hf, hy, k⟩ := h
    refine ⟨_, (pss_one (ps_ret (pe_callB call_iterS (by rfl) bI (by decide +kernel) (pa_cons (pe_fldK (K := K) (pv 0)) pa_nil)))), ?_⟩
    walk_at "go"
    refine ⟨a, C, dx, fs, _, rfl, ha, T.cl, T.nR, hf, ?_⟩
    walk_at "go"
    exact ⟨b, ys, rfl, hy, fun p np sz => k p np sz⟩
theorem ok_check_poly {f : Addr} {fd : FuncData} (F : Fun K "check_poly" "check_poly" s_check_poly f fd) (B : Bl mg) (G_Poly : PolyT K mg C) : FnOk P w K mg base CX0 1 f fd ["value"] (fun vs H Q _ => ∃ a ts, vs = [.ref a] ∧ PolyAt C H a ts ∧ Q .non H) := by
  refine F.ok sc_check_poly (fun vs H Q E h => ?_) (fun cdv A outer s H vs Q E hr h => ?_)
  · obtain ⟨a, ts, rfl, _⟩ := h
    rfl
  · obtain ⟨a, ts, rfl, ⟨dx, r, vs, h1, h2⟩, k⟩ := h
    refine ⟨_, (pss_one (ps_if (pt_not (pt_val (pe_callB (call_isiKK (K := K)) (by rfl) B.b_isinstance (by decide +kernel) (pa_cons (pv 0) (pa_cons (pe_glob (v := .ref C) rfl G_Poly.mgC rfl) pa_nil)))))
    (pss_one ps_never)
    pss_nil)), ?_⟩
    walk_at "go"
    exact k
end

set_option Elab.async false
set_option linter.all false
set_option maxRecDepth 100000
set_option maxHeartbeats 4000000

open PySem PySem.Spec PyProof.Rows L2
section
variable {P : Program} {w : World} {K : PySem.W.Frag} {mg : Str → Option Value} {base : Heap} {C : Addr}

local macro_rules | `(tactic| walk_at "s") => `(tactic| (first
  | (with_reducible refine r_dnew ?_)
  | (with_reducible refine r_dget2 ?_)
  | (with_reducible refine r_dget ?_)
  | (with_reducible refine r_dput ?_)
  | (with_reducible refine r_dsetd ?_)
  | ((with_reducible refine JarAt.isD (n := ?nn) (c := ?cc) ?hh ?_); (case hh => assumption))
  ))

local macro_rules | `(tactic| walk_at "s") => `(tactic| (first
  | (with_reducible refine r_prop ?_)
  | (with_reducible refine r_meth ?_)
  | (with_reducible refine r_make ?_)
  | (with_reducible refine r_fld ?_)
  | (with_reducible refine r_sfld ?_)
  | (with_reducible refine r_iOwn ?_)
  | ((with_reducible refine u_rowsAt (mg := ?mm) (C := ?CC) (dx := ?dd) (fv := ?vv) ?tt ?hh ?_); (case tt => assumption); (case hh => walk_at "hp"))
  | ((with_reducible refine r_isPoly (mg := ?mm) (dx := ?dd) (fs := ?ff) ?tt ?hh ?_); (case tt => assumption); (case hh => walk_at "hp"))
  | ((with_reducible refine r_isPolyI (mg := ?mm) ?tt ?_); (case tt => assumption))
  | ((with_reducible refine r_polyInt (mg := ?mm) (C := ?CC) (dx := ?dd) (fs := ?ff) ?tt ?hh ?_); (case tt => assumption); (case hh => walk_at "hp"))
  ))

theorem ok_is_integerT {f : Addr} {fd : FuncData} (F : Fun K "is_integer" "is_integer" s_is_integer f fd) (B : Bl mg) : FnOk P w K mg base CX0 1 f fd ["value"] (spIsIntT K) := by
  refine F.ok sc_is_integer (fun vs H Q E h => ?_) (fun cdv A outer s H vs Q E hr h => ?_)
  · obtain ⟨x, t, b1, b2, rfl, _⟩ := h
    rfl
  · obtain ⟨x, t, b1, b2, rfl, ty, k1, k2, k⟩ := h
    refine ⟨_, (pss_one (ps_ret (pe_and (pe_callB (call_isiEK (K := K)) (by rfl) B.b_isinstance (by decide +kernel) (pa_cons (pv 0) (pa_cons (pe_bltn (v := .ty "int") (by rfl) B.b_int (by decide +kernel) rfl) pa_nil))) (pe_one (pe_not (pe_callB (call_isiEK (K := K)) (by rfl) B.b_isinstance (by decide +kernel) (pa_cons (pv 0) (pa_cons (pe_bltn (v := .ty "bool") (by rfl) B.b_bool (by decide +kernel) rfl) pa_nil)))))))), ?_⟩
    walk_at "go"
    refine r_isiE (.ty _) ty k1 ?_
    walk_at "go"
    cases b1 with
    | true =>
      walk_at "go"
      refine r_isiE (.ty _) ty k2 ?_
      walk_at "go"
      exact k
    | false =>
      walk_at "go"
      exact k
theorem ok_as_poly {f : Addr} {fd : FuncData} (F : Fun K "as_poly" "as_poly" s_as_poly f fd) (B : Bl mg) (G_Poly : PolyT K mg C) (h_is_integer : Has P w K mg base "is_integer" 1 ["value"] (spIsIntT K)) (hc_Poly : HasC P w K mg base "Poly" C 3 ["self", "terms"] (spInit C))
   (h_check_poly : Has P w K mg base "check_poly" 1 ["value"] (fun vs H Q _ => ∃ a ts, vs = [.ref a] ∧ PolyAt C H a ts ∧ Q .non H)) : FnOk P w K mg base CX0 5 f fd ["value"] (spAsPoly C) := by
  refine F.ok sc_as_poly (fun vs H Q E h => ?_) (fun cdv A outer s H vs Q E hr h => ?_)
  · obtain ⟨v, c, n, rfl, _⟩ := h
    rfl
  · obtain ⟨v, c, n, rfl, hv, k⟩ := h
    refine ⟨_, (pss_cons (ps_if (pt_val (pe_callH h_is_integer (hr.mono (by first | decide | omega)) (pa_cons (pv 0) pa_nil)))
    (pss_one (ps_ret (pe_makeH hc_Poly (hr.mono (by first | decide | omega)) (pa_cons (pe_lst (pa_cons (pe_tup (pa_cons pe_int (pa_cons (pv 0) pa_nil))) pa_nil)) pa_nil))))
    pss_nil)
    (pss_cons (ps_expr (pe_callH h_check_poly (hr.mono (by first | decide | omega)) (pa_cons (pv 0) pa_nil)))
    (pss_one (ps_ret (pv 0))))), ?_⟩
    rcases hv with ⟨a, ts, rfl, ha, hcof, hn⟩ | ⟨i, rfl, hcof, hn⟩
    · obtain ⟨dx, r, vs, g1, _⟩ := id ha
      walk_at "go"
      refine u_isIntP G_Poly g1 ?_
      walk_at "go"
      refine ⟨a, ts, rfl, ha, ?_⟩
      walk_at "go"
      exact k a ts H (Same.refl _) ha hcof hn
    · walk_at "go"
      refine u_isInt ?_
      walk_at "go"
      intro t nt
      walk_at "go"
      intro l nl
      walk_at "go"
      refine u_poly (l := l) (ts := [(0, i)]) ⟨_, upd_same, .one (h_keep upd_same nl)⟩ (by simp) fun a us H' na s1 ha hcu hl => ?_
      refine k a us H' ((Same.new (Same.new0 nt) nl).trans s1) ha (fun j => ?_) (by simp at hl; omega)
      rw [hcu, hcof, cof, cof]
      by_cases e : j = 0
      · subst e; simp
      · rw [if_neg e, if_neg (fun h => e h.symm)]; rfl
end

set_option Elab.async false
set_option linter.all false
set_option maxRecDepth 100000
set_option maxHeartbeats 4000000

open PySem PySem.Spec PyProof.Rows L2
section
variable {P : Program} {w : World} {K : PySem.W.Frag} {mg : Str → Option Value} {base : Heap} {C : Addr}

local macro_rules | `(tactic| walk_at "s") => `(tactic| (first
  | (with_reducible refine r_dnew ?_)
  | (with_reducible refine r_dget2 ?_)
  | (with_reducible refine r_dget ?_)
  | (with_reducible refine r_dput ?_)
  | (with_reducible refine r_dsetd ?_)
  | ((with_reducible refine JarAt.isD (n := ?nn) (c := ?cc) ?hh ?_); (case hh => assumption))
  ))

local macro_rules | `(tactic| walk_at "s") => `(tactic| (first
  | (with_reducible refine r_prop ?_)
  | (with_reducible refine r_meth ?_)
  | (with_reducible refine r_make ?_)
  | (with_reducible refine r_fld ?_)
  | (with_reducible refine r_sfld ?_)
  | (with_reducible refine r_iOwn ?_)
  | ((with_reducible refine u_rowsAt (mg := ?mm) (C := ?CC) (dx := ?dd) (fv := ?vv) ?tt ?hh ?_); (case tt => assumption); (case hh => walk_at "hp"))
  | ((with_reducible refine r_isPoly (mg := ?mm) (dx := ?dd) (fs := ?ff) ?tt ?hh ?_); (case tt => assumption); (case hh => walk_at "hp"))
  | ((with_reducible refine r_isPolyI (mg := ?mm) ?tt ?_); (case tt => assumption))
  | ((with_reducible refine r_polyInt (mg := ?mm) (C := ?CC) (dx := ?dd) (fs := ?ff) ?tt ?hh ?_); (case tt => assumption); (case hh => walk_at "hp"))
  ))

theorem ok_negative {f : Addr} {fd : FuncData} (F : Fun K "negative" "negative" s_negative f fd) (B : Bl mg) (G_Poly : PolyT K mg C) (hc_Poly : HasC P w K mg base "Poly" C 3 ["self", "terms"] (spInit C)) : FnOk P w K mg base CX0 5 f fd ["poly"] (spPoly1 C fun ts k => -cof ts k) := by
  refine F.ok sc_negative (fun vs H Q E h => ?_) (fun cdv A outer s H vs Q E hr h => ?_)
  · obtain ⟨a, ts, rfl, _⟩ := h
    rfl
  · obtain ⟨a, ts, rfl, ⟨dx, r, vs, g1, hr', ht, hc⟩, hn, k⟩ := h
    refine ⟨_, (pss_one (ps_ret (pe_makeH hc_Poly (hr.mono (by first | decide | omega)) (pa_cons (pe_lc (g := (gTup K 2 (gCons (gName 1) (gCons (gName 2) gNil)))) (own := [("power", 1), ("number", 2)]) rfl sc_negative.nd (pi_tup (pe_fldK (K := K) (pv 0))) (blkOk_by (N := ["poly", "power", "number"]) (sc := defScope s_negative) (by decide +kernel)) (fun _ _ _ _ _ => (pg_tupK (K := K) rfl (pgs_cons (pg_name (i := 1) sc_negative.nd rfl (.inl rfl)) (pgs_cons (pg_name (i := 2) sc_negative.nd rfl (.inl rfl)) pgs_nil)))) (fun _ _ _ _ _ => pts_nil) (fun _ _ _ _ _ => (pe_tup (pa_cons (pv 1) (pa_cons (pe_un un_neg (pv 2)) pa_nil))))) pa_nil)))), ?_⟩
    have hvl := ht.length
    walk_at "go"
    refine u_lcT (.of hr') (fun D i acc H2 => (TermsL H2 acc (negT (ts.take i)) ∧ i ≤ vs.length) ∧ Same H H2) ?_ ?_ ?_ ?_
    · exact fun D hD => ⟨⟨rfl, Nat.zero_le _⟩, Same.new0 hD⟩
    · exact fun D i acc H2 _ _ ⟨_, s1⟩ => .of (s1 _ _ hr')
    · rintro D i x acc H2 hD hx hacc ⟨⟨ht2, hi0⟩, s1⟩
      obtain ⟨b, p, rfl, hp, hb⟩ := ht.at i hx
      have hi2 := (List.getElem?_eq_some_iff.mp hx).1
      have hb2 := s1 _ _ hb
      have et : ts.take (i + 1) = ts.take i ++ [p] := by rw [List.take_succ, hp]; rfl
      have al : acc.length ≤ i := by
        rw [ht2.length, negT, List.length_map, List.length_take]; omega
      walk_at "go"
      refine ⟨rfl, ?_⟩
      walk_at "go"
      intro t nt
      refine u_push (h_keep hacc nt) (by omega) ⟨⟨?_, hi2⟩, Same.put (Same.new s1 nt) hD⟩
      have t1 : Tk H2 (upd (upd H2 t (.tup [.int p.1, .int (-p.2)])) D (.lst (acc ++ [.ref t]))) := ((Tk.refl _).new nt).lst (h_keep hacc nt)
      rw [et, negT, List.map_append]
      exact (ht2.tk t1).app (.one ((upd_ne (ne_of_none hacc nt).symm).trans upd_same))
    · rintro D acc H2 hD hacc ⟨⟨ht2, hi0⟩, s1⟩
      rw [List.take_of_length_le (by omega)] at ht2
      walk_at "go"
      refine u_poly (l := D) (ts := negT ts) ⟨acc, hacc, ht2⟩ (by rw [negT, List.length_map]; exact hn) fun b us H3 nb s3 hb hcu hl => ?_
      exact k b us H3 (s1.trans s3) hb (fun j => (hcu j).trans (cof_neg ts j)) (by rw [negT, List.length_map] at hl; exact hl)
theorem ok_Poly_mirrored {f : Addr} {fd : FuncData} (F : Fun K "mirrored" "Poly.mirrored" s_Poly_mirrored f fd) (B : Bl mg) (G_Poly : PolyT K mg C) (hc_Poly : HasC P w K mg base "Poly" C 3 ["self", "terms"] (spInit C)) : FnOk P w K mg base CX0 5 f fd ["self"] (spPoly1 C fun ts k => cof ts (-k)) := by
  refine F.ok sc_Poly_mirrored (fun vs H Q E h => ?_) (fun cdv A outer s H vs Q E hr h => ?_)
  · obtain ⟨a, ts, rfl, _⟩ := h
    rfl
  · obtain ⟨a, ts, rfl, ⟨dx, r, vs, g1, hr', ht, hc⟩, hn, k⟩ := h
    refine ⟨_, (pss_one (ps_ret (pe_makeH hc_Poly (hr.mono (by first | decide | omega)) (pa_cons (pe_lc (g := (gTup K 2 (gCons (gName 1) (gCons (gName 2) gNil)))) (own := [("power", 1), ("number", 2)]) rfl sc_Poly_mirrored.nd (pi_tup (pe_fldK (K := K) (pv 0))) (blkOk_by (N := ["self", "power", "number"]) (sc := defScope s_Poly_mirrored) (by decide +kernel)) (fun _ _ _ _ _ => (pg_tupK (K := K) rfl (pgs_cons (pg_name (i := 1) sc_Poly_mirrored.nd rfl (.inl rfl)) (pgs_cons (pg_name (i := 2) sc_Poly_mirrored.nd rfl (.inl rfl)) pgs_nil)))) (fun _ _ _ _ _ => pts_nil) (fun _ _ _ _ _ => (pe_tup (pa_cons (pe_un un_neg (pv 1)) (pa_cons (pv 2) pa_nil))))) pa_nil)))), ?_⟩
    have hvl := ht.length
    walk_at "go"
    refine u_lcT (.of hr') (fun D i acc H2 => (TermsL H2 acc (mirT (ts.take i)) ∧ i ≤ vs.length) ∧ Same H H2) ?_ ?_ ?_ ?_
    · exact fun D hD => ⟨⟨rfl, Nat.zero_le _⟩, Same.new0 hD⟩
    · exact fun D i acc H2 _ _ ⟨_, s1⟩ => .of (s1 _ _ hr')
    · rintro D i x acc H2 hD hx hacc ⟨⟨ht2, hi0⟩, s1⟩
      obtain ⟨b, p, rfl, hp, hb⟩ := ht.at i hx
      have hi2 := (List.getElem?_eq_some_iff.mp hx).1
      have hb2 := s1 _ _ hb
      have et : ts.take (i + 1) = ts.take i ++ [p] := by rw [List.take_succ, hp]; rfl
      have al : acc.length ≤ i := by
        rw [ht2.length, mirT, List.length_map, List.length_take]; omega
      walk_at "go"
      refine ⟨rfl, ?_⟩
      walk_at "go"
      intro t nt
      refine u_push (h_keep hacc nt) (by omega) ⟨⟨?_, hi2⟩, Same.put (Same.new s1 nt) hD⟩
      have t1 : Tk H2 (upd (upd H2 t (.tup [.int (-p.1), .int p.2])) D (.lst (acc ++ [.ref t]))) := ((Tk.refl _).new nt).lst (h_keep hacc nt)
      rw [et, mirT, List.map_append]
      exact (ht2.tk t1).app (.one ((upd_ne (ne_of_none hacc nt).symm).trans upd_same))
    · rintro D acc H2 hD hacc ⟨⟨ht2, hi0⟩, s1⟩
      rw [List.take_of_length_le (by omega)] at ht2
      walk_at "go"
      refine u_poly (l := D) (ts := mirT ts) ⟨acc, hacc, ht2⟩ (by rw [mirT, List.length_map]; exact hn) fun b us H3 nb s3 hb hcu hl => ?_
      exact k b us H3 (s1.trans s3) hb (fun j => (hcu j).trans (cof_mir ts j)) (by rw [mirT, List.length_map] at hl; exact hl)
theorem ok_Poly_neg {f : Addr} {fd : FuncData} (F : Fun K "__neg__" "Poly.__neg__" s_Poly___neg__ f fd) (h_negative : Has P w K mg base "negative" 5 ["poly"] (spPoly1 C fun ts k => -cof ts k)) : FnOk P w K mg base CX0 6 f fd ["self"] (spPoly1 C fun ts k => -cof ts k) := by
  refine F.ok sc_Poly___neg__ (fun vs H Q E h => ?_) (fun cdv A outer s H vs Q E hr h => ?_)
  · obtain ⟨a, ts, rfl, _⟩ := h
    rfl
  · obtain ⟨a, ts, rfl, ha, hn, k⟩ := h
    refine ⟨_, (pss_one (ps_ret (pe_callH h_negative (hr.mono (by first | decide | omega)) (pa_cons (pv 0) pa_nil)))), ?_⟩
    walk_at "go"
    exact ⟨a, ts, rfl, ha, hn, k⟩
end

set_option Elab.async false
set_option linter.all false
set_option maxRecDepth 100000
set_option maxHeartbeats 4000000

open PySem PySem.Spec PyProof.Rows L2
section
variable {P : Program} {w : World} {K : PySem.W.Frag} {mg : Str → Option Value} {base : Heap} {C : Addr}

local macro_rules | `(tactic| walk_at "s") => `(tactic| (first
  | (with_reducible refine r_dnew ?_)
  | (with_reducible refine r_dget2 ?_)
  | (with_reducible refine r_dget ?_)
  | (with_reducible refine r_dput ?_)
  | (with_reducible refine r_dsetd ?_)
  | ((with_reducible refine JarAt.isD (n := ?nn) (c := ?cc) ?hh ?_); (case hh => assumption))
  ))

local macro_rules | `(tactic| walk_at "s") => `(tactic| (first
  | (with_reducible refine r_prop ?_)
  | (with_reducible refine r_meth ?_)
  | (with_reducible refine r_make ?_)
  | (with_reducible refine r_fld ?_)
  | (with_reducible refine r_sfld ?_)
  | (with_reducible refine r_iOwn ?_)
  | ((with_reducible refine u_rowsAt (mg := ?mm) (C := ?CC) (dx := ?dd) (fv := ?vv) ?tt ?hh ?_); (case tt => assumption); (case hh => walk_at "hp"))
  | ((with_reducible refine r_isPoly (mg := ?mm) (dx := ?dd) (fs := ?ff) ?tt ?hh ?_); (case tt => assumption); (case hh => walk_at "hp"))
  | ((with_reducible refine r_isPolyI (mg := ?mm) ?tt ?_); (case tt => assumption))
  | ((with_reducible refine r_polyInt (mg := ?mm) (C := ?CC) (dx := ?dd) (fs := ?ff) ?tt ?hh ?_); (case tt => assumption); (case hh => walk_at "hp"))
  ))

theorem ok_Poly_add {f : Addr} {fd : FuncData} (F : Fun K "__add__" "Poly.__add__" s_Poly___add__ f fd) (B : Bl mg) (G_Poly : PolyT K mg C) (hc_Poly : HasC P w K mg base "Poly" C 3 ["self", "terms"] (spInit C)) (h_as_poly : Has P w K mg base "as_poly" 5 ["value"] (spAsPoly C)) : FnOk P w K mg base CX0 6 f fd ["self", "other"] (spPoly2 C fun c d k => c k + d k) := by
  refine F.ok sc_Poly___add__ (fun vs H Q E h => ?_) (fun cdv A outer s H vs Q E hr h => ?_)
  · obtain ⟨a, ts, v, c, n, rfl, _⟩ := h
    rfl
  · obtain ⟨a, ts, v, c, n, rfl, ha, hv, hn, k⟩ := h
    obtain ⟨dx, r, vs, g1, hr', ht, hc⟩ := id ha
    refine ⟨_, (pss_one (ps_ret (pe_makeH hc_Poly (hr.mono (by first | decide | omega)) (pa_cons (pe_op op_cat (pe_callTy call_listT (by rfl) B.b_list (by decide +kernel) (pa_cons (pe_fldK (K := K) (pv 0)) pa_nil)) (pe_callTy call_listT (by rfl) B.b_list (by decide +kernel) (pa_cons (pe_fldK (K := K) (pe_callH h_as_poly (hr.mono (by first | decide | omega)) (pa_cons (pv 1) pa_nil))) pa_nil))) pa_nil)))), ?_⟩
    have hvl := ht.length
    walk_at "go"
    intro l1 nl1
    walk_at "go"
    have hl1 : upd H l1 (.lst vs) l1 = some (.lst vs) := upd_same
    have s0 : Same H (upd H l1 (.lst vs)) := Same.new0 nl1
    generalize upd H l1 (.lst vs) = H1 at *
    refine ⟨v, c, n, rfl, hv.same s0, fun b us H2 s2 hb hcu hul => ?_⟩
    obtain ⟨dx2, r2, ws, g2, hr2, hw, hc2⟩ := hb
    have hwl := hw.length
    walk_at "go"
    intro l2 nl2
    refine r_cat (h_keep (s2 _ _ hl1) nl2) upd_same (by omega) fun l3 nl3 => ?_
    walk_at "go"
    have sE : Same H (upd (upd H2 l2 (.lst ws)) l3 (.lst (vs ++ ws))) := Same.new (Same.new (s0.trans s2) nl2) nl3
    have tE : Tk H2 (upd (upd H2 l2 (.lst ws)) l3 (.lst (vs ++ ws))) := ((Tk.refl _).new nl2).new nl3
    refine u_poly (l := l3) (ts := ts ++ us) ⟨_, upd_same, (ht.tk (Tk.same sE)).app (hw.tk tE)⟩ (by rw [List.length_append]; omega) fun p ps H3 np s3 hp hcp hpl => ?_
    refine k p ps H3 (sE.trans s3) hp (fun j => ?_) (by rw [List.length_append] at hpl; omega)
    rw [hcp, cof_app, hcu]
end

set_option Elab.async false
set_option linter.all false
set_option maxRecDepth 100000
set_option maxHeartbeats 4000000

open PySem PySem.Spec PyProof.Rows L2
section
variable {P : Program} {w : World} {K : PySem.W.Frag} {mg : Str → Option Value} {base : Heap} {C : Addr}

local macro_rules | `(tactic| walk_at "s") => `(tactic| (first
  | (with_reducible refine r_dnew ?_)
  | (with_reducible refine r_dget2 ?_)
  | (with_reducible refine r_dget ?_)
  | (with_reducible refine r_dput ?_)
  | (with_reducible refine r_dsetd ?_)
  | ((with_reducible refine JarAt.isD (n := ?nn) (c := ?cc) ?hh ?_); (case hh => assumption))
  ))

local macro_rules | `(tactic| walk_at "s") => `(tactic| (first
  | (with_reducible refine r_prop ?_)
  | (with_reducible refine r_meth ?_)
  | (with_reducible refine r_make ?_)
  | (with_reducible refine r_fld ?_)
  | (with_reducible refine r_sfld ?_)
  | (with_reducible refine r_iOwn ?_)
  | ((with_reducible refine u_rowsAt (mg := ?mm) (C := ?CC) (dx := ?dd) (fv := ?vv) ?tt ?hh ?_); (case tt => assumption); (case hh => walk_at "hp"))
  | ((with_reducible refine r_isPoly (mg := ?mm) (dx := ?dd) (fs := ?ff) ?tt ?hh ?_); (case tt => assumption); (case hh => walk_at "hp"))
  | ((with_reducible refine r_isPolyI (mg := ?mm) ?tt ?_); (case tt => assumption))
  | ((with_reducible refine r_polyInt (mg := ?mm) (C := ?CC) (dx := ?dd) (fs := ?ff) ?tt ?hh ?_); (case tt => assumption); (case hh => walk_at "hp"))
  ))

local macro_rules | `(tactic| walk_at "s") => `(tactic| (with_reducible refine r_lc2 ?_))
theorem ok_check_number {f : Addr} {fd : FuncData} (F : Fun K "check_number" "check_number" s_check_number f fd) (B : Bl mg) (h_is_integer : Has P w K mg base "is_integer" 1 ["value"] spIsInt) : FnOk P w K mg base CX0 2 f fd ["value"] spPNum := by
  refine F.ok sc_check_number (fun vs H Q E h => ?_) (fun cdv A outer s H vs Q E hr h => ?_)
  · obtain ⟨n, rfl, _⟩ := h
    rfl
  · obtain ⟨n, rfl, k⟩ := h
    refine ⟨_, (pss_one (ps_if (pt_not (pt_val (pe_callH h_is_integer (hr.mono (by first | decide | omega)) (pa_cons (pv 0) pa_nil))))
    (pss_one ps_never)
    pss_nil)), ?_⟩
    walk_at "go"
    refine ⟨n, rfl, ?_⟩
    walk_at "go"
    exact k
theorem ok_product {f : Addr} {fd : FuncData} (F : Fun K "product" "product" s_product f fd) (B : Bl mg) (G_Poly : PolyT K mg C) (hc_Poly : HasC P w K mg base "Poly" C 3 ["self", "terms"] (spInit C)) : FnOk P w K mg base CX0 5 f fd ["one", "two"] (spProduct C) := by
  refine F.ok sc_product (fun vs H Q E h => ?_) (fun cdv A outer s H vs Q E hr h => ?_)
  · obtain ⟨a, b, ts, us, rfl, _⟩ := h
    rfl
  · obtain ⟨a, b, ts, us, rfl, ⟨dx, r, vs, g1, hr', ht, hc⟩, ⟨dy, r2, vs2, g2, hr2, hu, hc2⟩, hn, sm1, sm2, k⟩ := h
    refine ⟨_, (pss_one (ps_ret (pe_makeH hc_Poly (hr.mono (by first | decide | omega)) (pa_cons (pe_lc2 (g1 := (gTup K 2 (gCons (gName 4) (gCons (gName 5) gNil)))) (g := (gTup K 2 (gCons (gName 2) (gCons (gName 3) gNil)))) (own := [("power", 2), ("number", 3), ("other", 4), ("factor", 5)]) (vs1 := [4, 5]) rfl sc_product.nd (pi_tup (pe_fldK (K := K) (pv 0))) (blkOk_by (N := ["one", "two", "power", "number", "other", "factor"]) (sc := defScope s_product) (by decide +kernel)) (by decide) (fun _ _ _ _ _ => (pg_tupK (K := K) rfl (pgs_cons (pg_name (i := 2) sc_product.nd rfl (.inl rfl)) (pgs_cons (pg_name (i := 3) sc_product.nd rfl (.inl rfl)) pgs_nil)))) (fun _ _ _ _ _ => pts_nil) (fun _ _ _ _ _ => (pi_tupK (K := K) (pe_fldK (K := K) (pv 1)))) (fun _ _ _ _ _ => (pg_tupK (K := K) rfl (pgs_cons (pg_name (i := 4) sc_product.nd rfl (.inl rfl)) (pgs_cons (pg_name (i := 5) sc_product.nd rfl (.inl rfl)) pgs_nil)))) (fun _ _ _ _ _ => pts_nil) (fun _ _ _ _ _ => (pe_tup (pa_cons (pe_op op_add (pv 2) (pv 4)) (pa_cons (pe_op op_mulW (pv 3) (pv 5)) pa_nil))))) pa_nil)))), ?_⟩
    have hvl := ht.length
    have hvl2 := hu.length
    walk_at "go"
    refine u_lcO (.of hr') (fun D i acc H2 => (TermsL H2 acc (prodT (ts.take i) us) ∧ i ≤ vs.length) ∧ Same H H2) ?_ ?_ ?_ ?_
    · exact fun D hD => ⟨⟨rfl, Nat.zero_le _⟩, Same.new0 hD⟩
    · exact fun D i acc H2 _ _ ⟨_, s1⟩ => .of (s1 _ _ hr')
    · rintro D i x acc H2 hD hx hacc ⟨⟨ht2, hi0⟩, s1⟩
      obtain ⟨e, p, rfl, hp, hb⟩ := ht.at i hx
      have hi2 := (List.getElem?_eq_some_iff.mp hx).1
      have hb2 := s1 _ _ hb
      have hg2 := s1 _ _ g2
      have hr22 := s1 _ _ hr2
      walk_at "go"
      refine ⟨rfl, ?_⟩
      walk_at "go"
      have al : acc.length = i * us.length := by
        rw [ht2.length, prodT_length, List.length_take, Nat.min_eq_left (by omega)]
      have hmul : i * us.length + us.length ≤ 90000 := by
        have : (i + 1) * us.length ≤ ts.length * us.length := Nat.mul_le_mul_right _ (by omega)
        rw [Nat.succ_mul] at this
        omega
      refine u_lcI (acc0 := acc) (.of hr22) (fun D j acc' H3 => (TermsL H3 acc' (prodT (ts.take i) us ++ rowT p (us.take j)) ∧ j ≤ vs2.length) ∧ Same H H3) hacc ⟨⟨by simpa [rowT] using ht2, Nat.zero_le _⟩, s1⟩ ?_ ?_ ?_
      · exact fun j acc' H3 _ ⟨_, s3⟩ => .of (s3 _ _ hr2)
      · rintro j y acc' H3 hy hacc' ⟨⟨ht3, hj0⟩, s3⟩
        obtain ⟨e', q, rfl, hq, hb'⟩ := hu.at j hy
        have hj2 := (List.getElem?_eq_some_iff.mp hy).1
        have hb3 := s3 _ _ hb'
        have al' : acc'.length < 90000 := by
          rw [ht3.length, List.length_append, prodT_length, rowT, List.length_map, List.length_take, List.length_take, Nat.min_eq_left (by omega : i ≤ ts.length), Nat.min_eq_left (by omega : j ≤ us.length)]
          omega
        have mm : CMulW p.2 q.2 := mulW_of (by rw [← hc.at (List.mem_of_getElem? hp)]; exact sm1 _) (by rw [← hc2.at (List.mem_of_getElem? hq)]; exact sm2 _)
        walk_at "go"
        refine ⟨rfl, ?_⟩
        walk_at "go"
        intro t nt
        refine u_push (h_keep hacc' nt) (by omega) ⟨⟨?_, hj2⟩, Same.put (Same.new s3 nt) hD⟩
        have t1 : Tk H3 (upd (upd H3 t (.tup [.int (p.1 + q.1), .int (p.2 * q.2)])) D (.lst (acc' ++ [.ref t]))) := ((Tk.refl _).new nt).lst (h_keep hacc' nt)
        rw [rowT_take hq, ← List.append_assoc]
        exact (ht3.tk t1).app (.one ((upd_ne (ne_of_none hacc' nt).symm).trans upd_same))
      · rintro acc' H3 hacc' ⟨⟨ht3, hj0⟩, s3⟩
        rw [List.take_of_length_le (l := us) (i := vs2.length) (by omega), ← prodT_take us i hp] at ht3
        exact ⟨acc', hacc', ⟨ht3, hi2⟩, s3⟩
    · rintro D acc H2 hD hacc ⟨⟨ht2, hi0⟩, s1⟩
      rw [List.take_of_length_le (by omega)] at ht2
      walk_at "go"
      refine u_poly (l := D) (ts := prodT ts us) ⟨acc, hacc, ht2⟩ (by rw [prodT_length]; exact hn) fun b us' H3 nb s3 hb hcu hl => ?_
      exact k b us' H3 (s1.trans s3) hb (fun j => (hcu j).trans ((cof_prod ts us j).trans (mulF_of (fun _ => rfl) (fun _ => rfl) j).symm)) (by rw [prodT_length] at hl; exact hl)
theorem ok_Poly_mul {f : Addr} {fd : FuncData} (F : Fun K "__mul__" "Poly.__mul__" s_Poly___mul__ f fd) (h_as_poly : Has P w K mg base "as_poly" 5 ["value"] (spAsPoly C)) (h_product : Has P w K mg base "product" 5 ["one", "two"] (spProduct C)) : FnOk P w K mg base CX0 6 f fd ["self", "other"] (spMul C mulF) := by
  refine F.ok sc_Poly___mul__ (fun vs H Q E h => ?_) (fun cdv A outer s H vs Q E hr h => ?_)
  · obtain ⟨a, ts, v, c, n, rfl, _⟩ := h
    rfl
  · obtain ⟨a, ts, v, c, n, rfl, ha, hv, hn, sm1, sm2, k⟩ := h
    refine ⟨_, (pss_one (ps_ret (pe_callH h_product (hr.mono (by first | decide | omega)) (pa_cons (pv 0) (pa_cons (pe_callH h_as_poly (hr.mono (by first | decide | omega)) (pa_cons (pv 1) pa_nil)) pa_nil))))), ?_⟩
    walk_at "go"
    refine ⟨v, c, n, rfl, hv, fun b us H1 s1 hb hcb hlb => ?_⟩
    walk_at "go"
    have hlm : ts.length * us.length ≤ ts.length * n := Nat.mul_le_mul_left _ hlb
    refine ⟨a, b, ts, us, rfl, ha.same s1, hb, by omega, sm1, fun j => by rw [hcb]; exact sm2 j, fun p ws H2 s2 hp hcp hlp => ?_⟩
    walk_at "go"
    exact k p ws H2 (s1.trans s2) hp (fun j => (hcp j).trans (mulF_ext (fun _ => rfl) hcb j)) (by omega)
theorem ok_Poly_lshift {f : Addr} {fd : FuncData} (F : Fun K "__lshift__" "Poly.__lshift__" s_Poly___lshift__ f fd) (B : Bl mg) (G_Poly : PolyT K mg C) (hc_Poly : HasC P w K mg base "Poly" C 3 ["self", "terms"] (spInit C)) (h_check_number : Has P w K mg base "check_number" 2 ["value"] spPNum) : FnOk P w K mg base CX0 5 f fd ["self", "number"] (spShift C) := by
  refine F.ok sc_Poly___lshift__ (fun vs H Q E h => ?_) (fun cdv A outer s H vs Q E hr h => ?_)
  · obtain ⟨a, ts, n, rfl, _⟩ := h
    rfl
  · obtain ⟨a, ts, n, rfl, ⟨dx, r, vs, g1, hr', ht, hc⟩, hn, k⟩ := h
    refine ⟨_, (pss_cons (ps_expr (pe_callH h_check_number (hr.mono (by first | decide | omega)) (pa_cons (pv 1) pa_nil)))
    (pss_one (ps_ret (pe_makeH hc_Poly (hr.mono (by first | decide | omega)) (pa_cons (pe_lc (g := (gTup K 2 (gCons (gName 2) (gCons (gName 3) gNil)))) (own := [("power", 2), ("factor", 3)]) rfl sc_Poly___lshift__.nd (pi_tup (pe_fldK (K := K) (pv 0))) (blkOk_by (N := ["self", "number", "power", "factor"]) (sc := defScope s_Poly___lshift__) (by decide +kernel)) (fun _ _ _ _ _ => (pg_tupK (K := K) rfl (pgs_cons (pg_name (i := 2) sc_Poly___lshift__.nd rfl (.inl rfl)) (pgs_cons (pg_name (i := 3) sc_Poly___lshift__.nd rfl (.inl rfl)) pgs_nil)))) (fun _ _ _ _ _ => pts_nil) (fun _ _ _ _ _ => (pe_tup (pa_cons (pe_op op_add (pv 2) (pv 1)) (pa_cons (pv 3) pa_nil))))) pa_nil))))), ?_⟩
    have hvl := ht.length
    walk_at "go"
    refine ⟨n, rfl, ?_⟩
    walk_at "go"
    refine u_lcT (.of hr') (fun D i acc H2 => (TermsL H2 acc (shiftT n (ts.take i)) ∧ i ≤ vs.length) ∧ Same H H2) ?_ ?_ ?_ ?_
    · exact fun D hD => ⟨⟨rfl, Nat.zero_le _⟩, Same.new0 hD⟩
    · exact fun D i acc H2 _ _ ⟨_, s1⟩ => .of (s1 _ _ hr')
    · rintro D i x acc H2 hD hx hacc ⟨⟨ht2, hi0⟩, s1⟩
      obtain ⟨b, p, rfl, hp, hb⟩ := ht.at i hx
      have hi2 := (List.getElem?_eq_some_iff.mp hx).1
      have hb2 := s1 _ _ hb
      have et : ts.take (i + 1) = ts.take i ++ [p] := by rw [List.take_succ, hp]; rfl
      have al : acc.length ≤ i := by
        rw [ht2.length, shiftT, List.length_map, List.length_take]; omega
      walk_at "go"
      refine ⟨rfl, ?_⟩
      walk_at "go"
      intro t nt
      refine u_push (h_keep hacc nt) (by omega) ⟨⟨?_, hi2⟩, Same.put (Same.new s1 nt) hD⟩
      have t1 : Tk H2 (upd (upd H2 t (.tup [.int (p.1 + n), .int p.2])) D (.lst (acc ++ [.ref t]))) := ((Tk.refl _).new nt).lst (h_keep hacc nt)
      rw [et, shiftT, List.map_append]
      exact (ht2.tk t1).app (.one ((upd_ne (ne_of_none hacc nt).symm).trans upd_same))
    · rintro D acc H2 hD hacc ⟨⟨ht2, hi0⟩, s1⟩
      rw [List.take_of_length_le (by omega)] at ht2
      walk_at "go"
      refine u_poly (l := D) (ts := shiftT n ts) ⟨acc, hacc, ht2⟩ (by rw [shiftT, List.length_map]; exact hn) fun b us H3 nb s3 hb hcu hl => ?_
      exact k b us H3 (s1.trans s3) hb (fun j => (hcu j).trans (cof_shift n ts j)) (by rw [shiftT, List.length_map] at hl; exact hl)
end

set_option Elab.async false
set_option linter.all false
set_option maxRecDepth 100000
set_option maxHeartbeats 8000000
set_option pp.deepTerms false
set_option pp.deepTerms.threshold 12
set_option pp.maxSteps 1200

open PySem PySem.Spec PyProof.Rows L2
theorem take_low {ts : Terms} {i : Nat} {p : Int × Int} (h : Canon ts) (hp : ts[i]? = some p) : cof (ts.take i) p.1 = 0 := by
  refine cof_none fun q hq => ?_
  have hi := (List.getElem?_eq_some_iff.mp hp).1
  have hd : ts.drop i = p :: ts.drop (i + 1) := by
    rw [List.drop_eq_getElem_cons hi, (List.getElem?_eq_some_iff.mp hp).2]
  have ha : (ts.take i ++ p :: ts.drop (i + 1)).Pairwise fun a b => a.1 < b.1 := by rw [← hd, List.take_append_drop]; exact h.asc
  have := (List.pairwise_append.mp ha).2.2 q hq p (.head _)
  omega
theorem ne_of_none' {H : Hp} {a b : Addr} {o : HO} (n : H a = none) (h : H b = some o) : a ≠ b := fun e => by rw [e, h] at n; cases n
structure DivS0 (ts ds : Terms) (w : Int) (T : Terms) (L : Int → Int) : Prop where
  eq : ∀ k, cof ts k = cmul T (cof ds) k + L k
  low : ∀ k, k < 0 → L k = 0
  high : ∀ k, w ≤ k → L k = 0
theorem abs_one {e : Int} (h : e = 1 ∨ e = -1) : (if e < 0 then -e else e) = 1 := by rcases h with rfl | rfl <;> decide
section
variable {P : Program} {w : World} {K : PySem.W.Frag} {mg : Str → Option Value} {base : Heap} {C : Addr}

local macro_rules | `(tactic| walk_at "s") => `(tactic| (first
  | (with_reducible refine r_dnew ?_)
  | (with_reducible refine r_dget2 ?_)
  | (with_reducible refine r_dget ?_)
  | (with_reducible refine r_dput ?_)
  | (with_reducible refine r_dsetd ?_)
  | ((with_reducible refine JarAt.isD (n := ?nn) (c := ?cc) ?hh ?_); (case hh => assumption))
  ))

local macro_rules | `(tactic| walk_at "s") => `(tactic| (first
  | (with_reducible refine r_prop ?_)
  | (with_reducible refine r_meth ?_)
  | (with_reducible refine r_make ?_)
  | (with_reducible refine r_fld ?_)
  | (with_reducible refine r_sfld ?_)
  | (with_reducible refine r_iOwn ?_)
  | ((with_reducible refine u_rowsAt (mg := ?mm) (C := ?CC) (dx := ?dd) (fv := ?vv) ?tt ?hh ?_); (case tt => assumption); (case hh => walk_at "hp"))
  | ((with_reducible refine r_isPoly (mg := ?mm) (dx := ?dd) (fs := ?ff) ?tt ?hh ?_); (case tt => assumption); (case hh => walk_at "hp"))
  | ((with_reducible refine r_isPolyI (mg := ?mm) ?tt ?_); (case tt => assumption))
  | ((with_reducible refine r_polyInt (mg := ?mm) (C := ?CC) (dx := ?dd) (fs := ?ff) ?tt ?hh ?_); (case tt => assumption); (case hh => walk_at "hp"))
  ))

local macro_rules | `(tactic| walk_at "s") => `(tactic| (with_reducible refine r_lstRg2 ?_))
local macro_rules | `(tactic| walk_at "s") => `(tactic| (with_reducible refine r_lstRg3 ?_))
theorem ok_check_divisor {f : Addr} {fd : FuncData} (F : Fun K "check_divisor" "check_divisor" s_check_divisor f fd) (B : Bl mg) (bAbs : mg "abs" = none) (G_Poly : PolyT K mg C) (h_check_poly : Has P w K mg base "check_poly" 1 ["value"] (fun vs H Q _ => ∃ a ts, vs = [.ref a] ∧ PolyAt C H a ts ∧ Q .non H)) : FnOk P w K mg base CX0 2 f fd ["value"] (spCheckDiv C) := by
  refine F.ok sc_check_divisor (fun vs H Q E h => ?_) (fun cdv A outer s H vs Q E hr h => ?_)
  · obtain ⟨d, ds, wd, rfl, _⟩ := h
    rfl
  · obtain ⟨d, ds, wd, rfl, hd, D, k⟩ := h
    obtain ⟨dx, r, vs, g1, hr', ht, hc⟩ := id hd
    obtain ⟨e0, h0, k0⟩ := D.lo
    obtain ⟨e1, h1, k1⟩ := D.hi
    have ne : ds ≠ [] := by rintro rfl; cases h0
    obtain ⟨b, b', p, q, a0, hb0, a1, hb1, p0, q1⟩ := last_of ht ne
    cases h0.symm.trans p0
    cases h1.symm.trans q1
    have hl : 0 < vs.length := by rw [ht.length]; exact List.length_pos_iff.mpr ne
    refine ⟨_, (pss_cons (ps_expr (pe_callH h_check_poly (hr.mono (by first | decide | omega)) (pa_cons (pv 0) pa_nil)))
    (pss_cons (ps_set (i := 1) sc_check_divisor.nd rfl (.inl rfl) (pe_fldK (K := K) (pv 0)))
    (pss_one (ps_if (PW.pt (pw_or (pt_cmpR op_eq (pe_callB (call_lenK (K := K)) (by rfl) B.b_len PySem.boot_len (pa_cons (pv 1) pa_nil)) pe_int (nomark _)) (pw_or (pt_cmpR op_ne (pe_ix (ix_tupK (K := K)) (pe_ix (ix_tupK (K := K)) (pv 1) pe_int (fun _ _ => rfl)) pe_int (fun _ _ => rfl)) pe_int (nomark _)) (pw_or (pt_cmpR op_ne (pe_callB call_absA (by rfl) bAbs (by decide +kernel) (pa_cons (pe_ix (ix_tupK (K := K)) (pe_ix (ix_tupK (K := K)) (pv 1) pe_int (fun _ _ => rfl)) pe_int (fun _ _ => rfl)) pa_nil)) pe_int (nomark _)) (pw_or1 (pt_cmpR op_ne (pe_callB call_absA (by rfl) bAbs (by decide +kernel) (pa_cons (pe_ix (ix_tupK (K := K)) (pe_ix (ix_tupK (K := K)) (pv 1) (pe_un un_neg pe_int) (fun _ _ => rfl)) pe_int (fun _ _ => rfl)) pa_nil)) pe_int (nomark _)))))))
    (pss_one ps_never)
    pss_nil)))), ?_⟩
    walk_at "go"
    refine ⟨d, ds, rfl, hd, ?_⟩
    walk_at "go"
    refine r_ixT (.of hr') a0 ?_
    walk_at "go"
    refine r_ixT (.of hr') a0 ?_
    walk_at "go"
    refine r_abs ?_
    rw [show (if (0, e0).2 < 0 then -(0, e0).2 else (0, e0).2) = 1 from abs_one k0]
    walk_at "go"
    refine r_ixT (.of hr') a1 ?_
    walk_at "go"
    refine r_abs ?_
    rw [show (if (wd, e1).2 < 0 then -(wd, e1).2 else (wd, e1).2) = 1 from abs_one k1]
    walk_at "go"
    exact k
theorem ok_division {f : Addr} {fd : FuncData} (F : Fun K "division" "division" s_division f fd) (B : Bl mg) (bS : mg "sorted" = none) (G_Poly : PolyT K mg C) (hp_Poly_span : HasP P w K mg base C "span" 1 ["self"] (spGetSpan C)) (hc_Poly : HasC P w K mg base "Poly" C 3 ["self", "terms"] (spInit C)) :
    FnOk P w K mg base CX0 5 f fd ["poly", "divisor"] (spDivision C) := by
  refine F.ok sc_division (fun vs H Q E h => ?_) (fun cdv A outer s H vs Q E hr h => ?_)
  · obtain ⟨a, d, ts, ds, wd, rfl, _⟩ := h
    rfl
  · obtain ⟨a, d, ts, ds, wd, rfl, ha, hd, D, ⟨ok1, ok2, BB, M, bB, bM, bM2, bP'⟩, near, wle, k⟩ := h
    have bP : BB * (1 + M) ^ stepsD ts wd < BG := Nat.lt_of_le_of_lt (Nat.le_mul_of_pos_left _ (by omega)) bP'
    obtain ⟨dx, r, vs, g1, hr1, ht1, hc1⟩ := id ha
    obtain ⟨dy, r2, ws, g2, hr2, ht2, hc2⟩ := id hd
    obtain ⟨e0, h0, k0⟩ := D.lo
    obtain ⟨e1, h1, k1⟩ := D.hi
    have ned : ds ≠ [] := by rintro rfl; cases h0
    obtain ⟨b, b', p, q, a0, hb0, a1, hb1, p0, q1⟩ := last_of ht2 ned
    cases h0.symm.trans p0
    cases h1.symm.trans q1
    have esp : spanOf ds = wd := by unfold spanOf; rw [h0, h1]; show wd - 0 = wd; omega
    have hvl := ht1.length
    have hwl := ht2.length
    have c0 : cof ds 0 = e0 := hc2.at (mem_head h0)
    have cw : cof ds wd = e1 := hc2.at (List.mem_of_getLast? h1)
    have w0 := D.w0
    refine ⟨_, (pss_cons (ps_set (i := 2) sc_division.nd rfl (.inl rfl) (pe_fldK (K := K) (pv 1)))
    (pss_cons (ps_set (i := 3) sc_division.nd rfl (.inl rfl) (pe_propH G_Poly.cl hp_Poly_span (hr.mono (by first | decide | omega)) (pv 1)))
    (pss_cons (ps_set (i := 4) sc_division.nd rfl (.inr rfl) pe_dnewK)
    (pss_cons (ps_for PassesOwn.never rfl (pi_tup (pe_fldK (K := K) (pv 0))) (pg_tup (by rfl) (pgs_cons (pg_name (i := 5) sc_division.nd rfl (.inl rfl)) (pgs_cons (pg_name (i := 6) sc_division.nd rfl (.inl rfl)) pgs_nil)))
    (pss_one (ps_dput (hu_of hr) (pv 4) (pv 5) (pv 6) rfl)))
    (pss_cons (ps_set (i := 7) sc_division.nd rfl (.inl rfl) (pe_lst pa_nil))
    (pss_cutM (ps_if (pt_cmpR op_gt (pe_callB (call_lenK (K := K)) (by rfl) B.b_len PySem.boot_len (pa_cons (pe_fldK (K := K) (pv 0)) pa_nil)) pe_int (nomark _))
    (pss_cons (ps_set (i := 8) sc_division.nd rfl (.inl rfl) (pe_tup (pa_cons (pe_ix (ix_tupK (K := K)) (pe_ix (ix_tupK (K := K)) (pe_fldK (K := K) (pv 0)) pe_int (fun _ _ => rfl)) pe_int (fun _ _ => rfl)) (pa_cons (pe_ix (ix_tupK (K := K)) (pe_ix (ix_tupK (K := K)) (pe_fldK (K := K) (pv 0)) (pe_un un_neg pe_int) (fun _ _ => rfl)) pe_int (fun _ _ => rfl)) pa_nil))))
    (pss_one (ps_for PassesOwn.never rfl (pi_list (pe_op op_cat (pe_listRg3 (by rfl) (by rfl) B.b_list (prg_3 (by rfl) B.b_range (pa_cons (pe_ix (ix_tupK (K := K)) (pv 8) pe_int (fun _ _ => rfl)) (pa_cons (pe_op op_sub (pv 3) pe_int) (pa_cons (pe_un un_neg pe_int) pa_nil))))) (pe_listRg (by rfl) (by rfl) B.b_list (prg_2 (by rfl) B.b_range (pe_ix (ix_tupK (K := K)) (pv 8) pe_int (fun _ _ => rfl)) pe_int)))) (pg_name (i := 5) sc_division.nd rfl (.inl rfl))
    (pss_cutM (ps_set (i := 9) sc_division.nd rfl (.inl rfl) (pe_ifExp (pt_cmpR op_ge (pv 5) (pv 3) (nomark _)) (pe_op op_sub (pv 5) (pv 3)) (pv 5)))
    (pss_cutM (ps_set (i := 10) sc_division.nd rfl (.inl rfl) (pe_op op_mulW (pe_dget2 (hu_of hr) (pv 4) (pv 5) pe_int ⟨rfl, rfl, rfl, rfl⟩) (pe_ix (ix_tupK (K := K)) (pe_ix (ix_tupK (K := K)) (pv 2) (pe_ifExp (pt_cmpR op_ge (pv 5) (pv 3) (nomark _)) (pe_un un_neg pe_int) pe_int) (fun _ _ => rfl)) pe_int (fun _ _ => rfl))))
    (pss_one (ps_if (pt_cmpR op_ne (pv 10) pe_int (nomark _))
    (pss_cons (ps_expr (pe_bm PySem.F.plainAttrs_list PySem.F.slot_list_append PySem.F.type_list_append mt_append (pv 7) (pa_cons (pe_tup (pa_cons (pv 9) (pa_cons (pv 10) pa_nil))) pa_nil)))
    (pss_one (ps_for PassesOwn.never rfl (pi_tup (pv 2)) (pg_tup (by rfl) (pgs_cons (pg_name (i := 11) sc_division.nd rfl (.inl rfl)) (pgs_cons (pg_name (i := 6) sc_division.nd rfl (.inl rfl)) pgs_nil)))
    (pss_one (ps_dput (hu_of hr) (pv 4) (pe_op op_add (pv 11) (pv 9)) (pe_op op_sub (pe_dget2 (hu_of hr) (pv 4) (pe_op op_add (pv 11) (pv 9)) pe_int ⟨rfl, rfl, rfl, rfl⟩) (pe_op op_mulW (pv 10) (pv 6))) rfl)))))
    pss_nil)))))))
    pss_nil)
    (pss_one (ps_ret (pe_tup (pa_cons (pe_makeH hc_Poly (hr.mono (by first | decide | omega)) (pa_cons (pv 7) pa_nil)) (pa_cons (pe_makeH hc_Poly (hr.mono (by first | decide | omega)) (pa_cons (pe_lc (own := [("power", 5)]) rfl sc_division.nd (pi_list (pe_callB call_sortedDA (by rfl) bS (by decide +kernel) (pa_cons (pv 4) pa_nil))) (blkOk_by (N := ["poly", "divisor", "rows", "width", "left", "power", "number", "terms", "ends", "shift", "factor", "other"]) (sc := defScope s_division) (by decide +kernel)) (fun _ _ _ _ _ => (pg_name (i := 5) sc_division.nd rfl (.inl rfl))) (fun _ _ _ _ _ => pts_nil) (fun _ _ _ _ _ => (pe_tup (pa_cons (pv 5) (pa_cons (pe_dget (hu_of hr) (pv 4) (pv 5) (fun _ _ => rfl)) pa_nil))))) pa_nil)) pa_nil))))))))))), ?_⟩
    walk_at "go"
    refine ⟨d, dy, _, rfl, g2, d, ds, rfl, hd, ?_⟩
    rw [esp]
    walk_at "go"
    intro dl ndl
    have hj0 : JarAt (upd H dl (.dK [])) dl 0 fun _ => 0 := .new
    have s0 : Same H (upd H dl (.dK [])) := Same.new0 ndl
    generalize upd H dl (.dK []) = H0 at *
    have hr10 := s0 _ _ hr1
    have g10 := s0 _ _ g1
    walk_at "go"
    refine u_forT (.of hr10) (fun i σ H' => ∃ (c : Int → Int) (y5 y6 : Option V), σ = [some (.ref a), some (.ref d), some (.ref r2), some (.int wd), some (.ref dl), y5, y6, none, none, none, none, none] ∧ Same H H' ∧ JarAt H' dl i c ∧ (∀ k, c k = cof (ts.take i) k) ∧ i ≤ vs.length) ?_ ?_ ?_ ?_
    · exact ⟨_, _, _, rfl, s0, hj0, fun k => rfl, Nat.zero_le _⟩
    · rintro i σ H' _ ⟨c, y5, y6, rfl, sm, _⟩
      exact .of (sm _ _ hr1)
    · rintro i x σ H' hx ⟨c, y5, y6, rfl, sm, hj, hc, hi⟩
      obtain ⟨b5, p, rfl, hp, hb⟩ := ht1.at i hx
      have hi2 := (List.getElem?_eq_some_iff.mp hx).1
      have hb' := sm _ _ hb
      walk_at "go"
      obtain ⟨H4, p1, b1, f1, j1⟩ := hj.dput (k := p.1) (v := p.2) (by omega)
      refine ⟨dl, H4, rfl, p1, _, _, _, rfl, Same.but2 sm ndl b1, j1, fun k => ?_, hi2⟩
      have et : ts.take (i + 1) = ts.take i ++ [p] := by rw [List.take_succ, hp]; rfl
      rw [et, cof_app]
      unfold addAt
      rw [cof, cof, hc]
      by_cases e : k = p.1
      · subst e; rw [if_pos rfl, if_pos rfl, take_low hc1 hp]; omega
      · rw [if_neg e, if_neg (fun h => e h.symm)]; omega
    · rintro σ H1 ⟨c, y5, y6, rfl, s1, hj1, hc, _⟩
      rw [List.take_of_length_le (by omega)] at hc
      have hj1 := hj1.ext hc
      clear hc hj0 s0 hr10 g10
      walk_at "go"
      intro tl ntl
      have tld : tl ≠ dl := hj1.ne ntl
      have hj2 := hj1.keep (o := .lst []) ntl
      have htl : (upd H1 tl (.lst [])) tl = some (.lst []) := upd_same
      have s2 : Same H (upd H1 tl (.lst [])) := Same.new s1 ntl
      have ntl0 : H tl = none := free_same s1 ntl
      generalize upd H1 tl (.lst []) = H2 at *
      have hr12 := s2 _ _ hr1
      have g12 := s2 _ _ g1
      refine r_cut (fun σ' H3 => ∃ (T : Terms) (L : Int → Int) (n : Nat) (acc : List V) (y5 y6 y8 y9 y10 y11 : Option V), Same H H3 ∧ H3 tl = some (.lst acc) ∧ TermsL H3 acc T ∧ T.length ≤ stepsD ts wd ∧ JarAt H3 dl n L ∧ n ≤ 90000 ∧ DivS0 ts ds wd T L ∧ (∀ p ∈ T, p.2.natAbs ≤ BB * (1 + M) ^ stepsD ts wd) ∧ σ' = [some (.ref a), some (.ref d), some (.ref r2), some (.int wd), some (.ref dl), y5, y6, some (.ref tl), y8, y9, y10, y11]) ?_ ?_
      · walk_at "go"
        refine r_iteD (fun hl => ?_) (fun hl => ?_)
        · have ne : ts ≠ [] := by rintro rfl; rw [List.length_nil] at hvl; omega
          obtain ⟨b, b', p, q, a0', hb0', a1', hb1', p0', q1'⟩ := last_of ht1 ne
          have hb02 := s2 _ _ hb0'
          have hb12 := s2 _ _ hb1'
          have est : stepsD ts wd = (q.1 - wd + 1).toNat + (-p.1).toNat := by unfold stepsD; rw [p0', q1']
          have np := near _ (mem_head p0')
          have nq := near _ (List.mem_of_getLast? q1')
          walk_at "go"
          refine r_ixT (.of hr12) a0' ?_
          walk_at "go"
          refine r_ixT (.of hr12) a1' ?_
          walk_at "go"
          intro el nel
          have hj3 := hj2.keep (o := .tup [.int p.1, .int q.1]) nel
          have htl3 : (upd H2 el (.tup [.int p.1, .int q.1])) tl = some (.lst []) := h_keep htl nel
          have hel3 : (upd H2 el (.tup [.int p.1, .int q.1])) el = some (.tup [.int p.1, .int q.1]) := upd_same
          have s3 : Same H (upd H2 el (.tup [.int p.1, .int q.1])) := Same.new s2 nel
          generalize upd H2 el (.tup [.int p.1, .int q.1]) = H3 at *
          walk_at "go"
          have n1e : (q.1 - (wd - 1)).toNat = (q.1 - wd + 1).toNat := by congr 1; omega
          have n2e : (0 - p.1).toNat = (-p.1).toNat := by congr 1; omega
          refine ⟨_, _, rfl, ⟨by omega, by omega, by omega, by omega, by omega⟩, fun l1 nl1 => ?_⟩
          have hel4 : (upd H3 l1 (.lst (rgD q.1 (wd - 1)))) el = some (.tup [.int p.1, .int q.1]) := h_keep hel3 nl1
          walk_at "go"
          refine ⟨_, _, rfl, rfl, ⟨by omega, by omega, by omega, by omega, by omega⟩, fun l2 nl2 => ?_⟩
          refine r_cat (xs := rgD q.1 (wd - 1)) (zs := rgV p.1 0) (h_keep upd_same nl2) upd_same (by rw [rgD_length, rgV_length]; omega) fun l3 nl3 => ?_
          have s4 : Same H3 (upd (upd (upd H3 l1 (.lst (rgD q.1 (wd - 1)))) l2 (.lst (rgV p.1 0))) l3 (.lst (rgD q.1 (wd - 1) ++ rgV p.1 0))) := Same.new (Same.new (Same.new0 nl1) nl2) nl3
          have hL : (upd (upd (upd H3 l1 (.lst (rgD q.1 (wd - 1)))) l2 (.lst (rgV p.1 0))) l3 (.lst (rgD q.1 (wd - 1) ++ rgV p.1 0))) l3 = some (.lst (rgD q.1 (wd - 1) ++ rgV p.1 0)) := upd_same
          have l3t : l3 ≠ tl := ne_of_none' nl3 ((Same.new (Same.new0 nl1) nl2) _ _ htl3)
          have l3d : l3 ≠ dl := ((hj3.same (Same.new (Same.new0 nl1) nl2)).ne nl3)
          generalize upd (upd (upd H3 l1 (.lst (rgD q.1 (wd - 1)))) l2 (.lst (rgV p.1 0))) l3 (.lst (rgD q.1 (wd - 1) ++ rgV p.1 0)) = H4 at *
          have htl4 := s4 _ _ htl3
          have hj4 := hj3.same s4
          have s5 := s3.trans s4
          clear s3 s4 hel3 hel4 htl3 hj3 nl1 nl2 nl3
          have hLl : (rgD q.1 (wd - 1) ++ rgV p.1 0).length = (q.1 - wd + 1).toNat + (-p.1).toNat := by rw [List.length_append, rgD_length, rgV_length, n1e, n2e]
          generalize hn1 : (q.1 - wd + 1).toNat = n1 at *
          have item : ∀ (i : Nat) (v : V), (rgD q.1 (wd - 1) ++ rgV p.1 0)[i]? = some v → ∃ pw : Int, v = .int pw ∧ ((i < n1 ∧ pw = q.1 - i) ∨ (n1 ≤ i ∧ pw = p.1 + ((i - n1 : Nat) : Int) ∧ pw < 0)) := by
            intro i v hv
            by_cases hi : i < n1
            · rw [List.getElem?_append_left (by rw [rgD_length, n1e]; exact hi)] at hv
              unfold rgD at hv
              rw [n1e, List.getElem?_map, List.getElem?_range hi] at hv
              cases hv
              exact ⟨_, rfl, .inl ⟨hi, rfl⟩⟩
            · rw [List.getElem?_append_right (by rw [rgD_length, n1e]; omega), rgD_length, n1e] at hv
              unfold rgV at hv
              rw [n2e, List.getElem?_map] at hv
              by_cases h2 : i - n1 < (-p.1).toNat
              · rw [List.getElem?_range h2] at hv
                cases hv
                exact ⟨_, rfl, .inr ⟨by omega, rfl, by omega⟩⟩
              · rw [List.getElem?_eq_none (by rw [List.length_range]; omega)] at hv
                cases hv
          generalize rgD q.1 (wd - 1) ++ rgV p.1 0 = xs at *
          refine u_forL (.of hL) (fun i σ H' => ∃ (T : Terms) (L : Int → Int) (n : Nat) (acc : List V) (y5 y6 y9 y10 y11 : Option V), Same H H' ∧ H' l3 = some (.lst xs) ∧ H' tl = some (.lst acc) ∧ TermsL H' acc T ∧ T.length ≤ i ∧ JarAt H' dl n L ∧ n ≤ ts.length + i * ds.length ∧ i ≤ xs.length ∧ DivS (cof ts) ds wd p.1 q.1 n1 i BB M T L ∧
            σ = [some (.ref a), some (.ref d), some (.ref r2), some (.int wd), some (.ref dl), y5, y6, some (.ref tl), some (.ref el), y9, y10, y11]) ?_ ?_ ?_ ?_
          · exact ⟨[], cof ts, _, [], _, _, _, _, _, s5, hL, htl4, rfl, Nat.zero_le _, hj4, by omega, Nat.zero_le _, .start (fun k hk => hc1.high q1' hk) (fun k hk => hc1.low' p0' hk) bB, rfl⟩
          · rintro i σ H' _ ⟨T, L, n, acc, y5, y6, y9, y10, y11, _, hl3, _⟩
            exact .of hl3
          · rintro i v σ H' hv ⟨T, L, n, acc, y5, y6, y9, y10, y11, s6, hl3, htl6, hT, hTl, hj6, hn6, hi6, S6, rfl⟩
            have hi7 := (List.getElem?_eq_some_iff.mp hv).1
            obtain ⟨pw, rfl, hpw⟩ := item i v hv
            have hr26 := s6 _ _ hr2
            have hb06 := s6 _ _ hb0
            have hb16 := s6 _ _ hb1
            have hnn : n + ds.length ≤ 90000 := by
              have : (i + 1) * ds.length ≤ stepsD ts wd * ds.length := Nat.mul_le_mul_right _ (by omega)
              rw [Nat.succ_mul] at this
              omega
            have hpow : BB * (1 + M) ^ i < BG := Nat.lt_of_le_of_lt (Nat.mul_le_mul_left _ (Nat.pow_le_pow_right (by omega) (by omega))) bP
            have sml : ∀ k, (L k).natAbs < BG := fun k => Nat.lt_of_le_of_lt (S6.bd k) hpow
            walk_at "go"
            refine r_cut (fun σ' H'' => ∃ s, H' = H'' ∧ ((wd ≤ pw ∧ s = pw - wd) ∨ (pw < wd ∧ s = pw)) ∧ σ' = [some (.ref a), some (.ref d), some (.ref r2), some (.int wd), some (.ref dl), some (.int pw), y6, some (.ref tl), some (.ref el), some (.int s), y10, y11]) ?_ ?_
            · walk_at "go"
              refine r_iteD (fun h => ?_) (fun h => ?_)
              · walk_at "go"
                exact ⟨_, rfl, .inl ⟨by omega, rfl⟩, rfl⟩
              · walk_at "go"
                exact ⟨_, rfl, .inr ⟨by omega, rfl⟩, rfl⟩
            rintro σ' _ ⟨s, rfl, hs, rfl⟩
            have m0 : CMulW (L pw) e0 := mulG (sml _) (one_BG k0)
            have m1 : CMulW (L pw) e1 := mulG (sml _) (one_BG k1)
            refine r_cut (fun σ' H'' => ∃ f, H' = H'' ∧ f.natAbs < BG ∧ (f = 0 → DivS (cof ts) ds wd p.1 q.1 n1 (i + 1) BB M T L) ∧ DivS (cof ts) ds wd p.1 q.1 n1 (i + 1) BB M (T ++ [(s, f)]) (fun k => L k - f * cof ds (k - s)) ∧
              σ' = [some (.ref a), some (.ref d), some (.ref r2), some (.int wd), some (.ref dl), some (.int pw), y6, some (.ref tl), some (.ref el), some (.int s), some (.int f), y11]) ?_ ?_
            · walk_at "go"
              obtain ⟨o, g1, g2⟩ := hj6.dget0 pw
              refine ⟨o, g1, ?_⟩
              rw [g2]
              walk_at "go"
              refine r_iteD (fun h => ?_) (fun h => ?_)
              · walk_at "go"
                refine r_ixT (.of hr26) a1 ?_
                walk_at "go"
                rcases hpw with ⟨hi, rfl⟩ | ⟨_, _, hneg⟩
                · have es : s = q.1 - i - wd := by omega
                  subst es
                  have S7 := S6.step1 D hn1.symm hi bM
                  rw [cw] at S7
                  refine ⟨_, rfl, ?_, fun h0 => S6.same ⟨fun _ => ?_, fun z => by omega⟩ hn1.symm, S7, rfl⟩
                  · have := sml (q.1 - i)
                    rcases k1 with rfl | rfl
                    · rw [Int.mul_one]; exact this
                    · rw [Int.mul_neg_one, Int.natAbs_neg]; exact this
                  · rcases k1 with rfl | rfl <;> omega
                · omega
              · walk_at "go"
                refine r_ixT (.of hr26) a0 ?_
                walk_at "go"
                rcases hpw with ⟨hi, rfl⟩ | ⟨hge, epw, hneg⟩
                · omega
                · have es : s = p.1 + ((i - n1 : Nat) : Int) := by omega
                  subst es
                  have S7 := S6.step2 D hn1.symm hge (by omega) bM
                  rw [c0, ← epw] at S7
                  refine ⟨_, rfl, ?_, fun h0 => S6.same ⟨fun z => by omega, fun _ => ?_⟩ hn1.symm, ?_, rfl⟩
                  · have := sml pw
                    rcases k0 with rfl | rfl
                    · rw [Int.mul_one]; exact this
                    · rw [Int.mul_neg_one, Int.natAbs_neg]; exact this
                  · rw [← epw]; rcases k0 with rfl | rfl <;> omega
                  · rw [← epw]; exact S7
            clear m0 m1 S6 sml hpow hb06 hb16
            rintro σ' _ ⟨f, rfl, fb, hz, S7, rfl⟩
            walk_at "go"
            refine r_iteN (fun hf => ?_) (fun hf => ?_)
            · have acl : acc.length < 100000 := by rw [hT.length]; omega
              walk_at "go"
              intro t nt
              have hj7 := hj6.keep (o := .tup [.int s, .int f]) nt
              have htl7 : (upd H' t (.tup [.int s, .int f])) tl = some (.lst acc) := h_keep htl6 nt
              have tt : t ≠ tl := ne_of_none' nt htl6
              walk_at "go"
              have hT8 : TermsL (upd (upd H' t (.tup [.int s, .int f])) tl (.lst (acc ++ [.ref t]))) (acc ++ [.ref t]) (T ++ [(s, f)]) := by
                have t1 : Tk H' (upd (upd H' t (.tup [.int s, .int f])) tl (.lst (acc ++ [.ref t]))) := ((Tk.refl _).new nt).lst htl7
                exact (hT.tk t1).app (.one ((upd_ne tt).trans upd_same))
              have hj8 : JarAt (upd (upd H' t (.tup [.int s, .int f])) tl (.lst (acc ++ [.ref t]))) dl n L := hj7.upd tld.symm
              have hl8 : (upd (upd H' t (.tup [.int s, .int f])) tl (.lst (acc ++ [.ref t]))) l3 = some (.lst xs) := (upd_ne l3t).trans (h_keep hl3 nt)
              have htl8 : (upd (upd H' t (.tup [.int s, .int f])) tl (.lst (acc ++ [.ref t]))) tl = some (.lst (acc ++ [.ref t])) := upd_same
              have s8 : Same H (upd (upd H' t (.tup [.int s, .int f])) tl (.lst (acc ++ [.ref t]))) := Same.put (Same.new s6 nt) ntl0
              generalize upd (upd H' t (.tup [.int s, .int f])) tl (.lst (acc ++ [.ref t])) = H8 at *
              refine u_forT (.of (s8 _ _ hr2)) (fun j σ H9 => ∃ (c : Int → Int) (z6 z11 : Option V), σ = [some (.ref a), some (.ref d), some (.ref r2), some (.int wd), some (.ref dl), some (.int pw), z6, some (.ref tl), some (.ref el), some (.int s), some (.int f), z11] ∧ But dl H8 H9 ∧ JarAt H9 dl (n + j) c ∧ (∀ k, c k = L k - f * cof (ds.take j) (k - s)) ∧ j ≤ ws.length) ?_ ?_ ?_ ?_
              · exact ⟨L, _, _, rfl, But.refl _ _, hj8, fun k => by rw [List.take_zero, cof]; omega, Nat.zero_le _⟩
              · rintro j σ H9 _ ⟨c, z6, z11, rfl, bu, _⟩
                exact .of (bu _ _ (Ne.symm (ne_of_none' ndl hr2)) (s8 _ _ hr2))
              · rintro j y σ H9 hy ⟨c, z6, z11, rfl, bu, hj9, hc9, hjl⟩
                obtain ⟨e', q', rfl, hq', hb'⟩ := ht2.at j hy
                have hj2' := (List.getElem?_eq_some_iff.mp hy).1
                have hb9 := bu _ _ (Ne.symm (ne_of_none' ndl hb')) (s8 _ _ hb')
                have mm : CMulW f q'.2 := mulG fb (Nat.lt_of_le_of_lt (by rw [← hc2.at (List.mem_of_getElem? hq')]; exact bM _) bM2)
                walk_at "go"
                obtain ⟨o, g1, g2⟩ := hj9.dget0 (q'.1 + s)
                refine ⟨o, g1, ?_⟩
                rw [g2]
                walk_at "go"
                obtain ⟨H10, p10, b10, f10, j10⟩ := hj9.dput (k := q'.1 + s) (v := c (q'.1 + s) - f * q'.2) (by omega)
                refine ⟨dl, H10, rfl, p10, _, _, _, rfl, bu.trans b10, j10, fun k => ?_, hj2'⟩
                have et : ds.take (j + 1) = ds.take j ++ [q'] := by rw [List.take_succ, hq']; rfl
                rw [et, cof_app]
                unfold addAt
                rw [cof, cof]
                by_cases e : k = q'.1 + s
                · subst e
                  rw [if_pos rfl, hc9, if_pos (by omega), Int.mul_add, Int.mul_add]; omega
                · rw [if_neg e, hc9, if_neg (by omega)]; simp
              · rintro σ H9 ⟨c, z6, z11, rfl, bu, hj9, hc9, hjl⟩
                rw [List.take_of_length_le (by omega)] at hc9
                have hn' : n + ws.length ≤ ts.length + (i + 1) * ds.length := by rw [Nat.succ_mul]; omega
                refine ⟨T ++ [(s, f)], _, n + ws.length, acc ++ [.ref t], _, _, _, _, _, Same.but2 s8 ndl bu, bu _ _ l3d hl8, bu _ _ tld htl8, hT8.tk fun x o e => bu _ _ (by rintro rfl; obtain ⟨kvs, ek, _⟩ := hj8; rw [ek] at e; cases e) e, by rw [List.length_append]; simp; omega, hj9.ext hc9, hn', by omega, S7, rfl⟩
            · walk_at "go"
              exact ⟨T, L, n, acc, _, _, _, _, _, s6, hl3, htl6, hT, by omega, hj6, by rw [Nat.succ_mul]; omega, by omega, hz (by omega), rfl⟩
          · rintro σ H' ⟨T, L, n, acc, y5, y6, y9, y10, y11, s6, hl3, htl6, hT, hTl, hj6, hn6, hi6, S6, rfl⟩
            rw [hLl] at hTl hn6 S6
            refine ⟨T, L, n, acc, _, _, _, _, _, _, s6, htl6, hT, by omega, hj6, by rw [est] at ok1; omega, ⟨S6.eq, fun k hk => S6.dn k hk (by omega), fun k hk => S6.up k hk (by omega)⟩, by rw [est]; exact S6.tb, rfl⟩
        · have e : ts = [] := List.length_eq_zero_iff.mp (by omega)
          subst e
          walk_at "go"
          exact ⟨[], cof [], _, [], _, _, _, _, _, _, s2, htl, rfl, Nat.zero_le _, hj2, by omega, ⟨fun k => by rw [cmul]; omega, fun _ _ => rfl, fun _ _ => rfl⟩, fun _ h => absurd h (by simp), rfl⟩
      rintro σ' H3 ⟨T, L, n, acc, z5, z6, z8, z9, z10, z11, s3, htl3, hT, hTl, hj3, hn, ⟨eq, low, high⟩, htb, rfl⟩
      walk_at "go"
      refine u_poly (l := tl) (ts := T) ⟨acc, htl3, hT⟩ (by omega) fun qa qs H4 nqa s4 hqa hcq lq => ?_
      have hj4 := hj3.same s4
      walk_at "go"
      refine rSortDJ hj4 fun ys sl hys hz hlen hget nsl => ?_
      have hj5 := hj4.keep (o := .lst (ys.map V.int)) nsl
      refine u_lcL (.of upd_same) (fun D i acc H2 => (TermsL H2 acc ((ys.take i).map fun k => (k, L k)) ∧ i ≤ ys.length) ∧ Same (upd H4 sl (.lst (ys.map V.int))) H2) ?_ ?_ ?_ ?_
      · exact fun D hD => ⟨⟨rfl, Nat.zero_le _⟩, Same.new0 hD⟩
      · exact fun D i acc H2 _ _ ⟨_, s1⟩ => .of (s1 _ _ upd_same)
      · rintro D i x acc H2 hD hx hacc ⟨⟨ht2, hi0⟩, s1⟩
        rw [List.getElem?_map] at hx
        cases hy : ys[i]? with
        | none => rw [hy] at hx; cases hx
        | some y =>
          rw [hy] at hx
          cases hx
          obtain ⟨hi2, ey⟩ := List.getElem?_eq_some_iff.mp hy
          have hj2 := hj5.same s1
          have et : ys.take (i + 1) = ys.take i ++ [y] := by rw [List.take_succ, hy]; rfl
          have hm2 := (hget y (List.mem_of_getElem? hy)).same ((Same.new0 nsl).trans s1)
          walk_at "go"
          refine ⟨rfl, ?_⟩
          walk_at "go"
          refine ⟨dl, _, rfl, hj2.dget hm2, ?_⟩
          walk_at "go"
          intro t nt
          have al : acc.length ≤ i := by rw [ht2.length, List.length_map, List.length_take]; omega
          refine u_push (h_keep hacc nt) (by omega) ⟨⟨?_, hi2⟩, Same.put (Same.new s1 nt) hD⟩
          have t1 : Tk H2 (upd (upd H2 t (.tup [.int y, .int (L y)])) D (.lst (acc ++ [.ref t]))) := ((Tk.refl _).new nt).lst (h_keep hacc nt)
          rw [et, List.map_append]
          exact (ht2.tk t1).app (.one ((upd_ne (ne_of_none hacc nt).symm).trans upd_same))
      · rintro D acc H5 hD hacc ⟨⟨ht2, hi0⟩, s5⟩
        rw [List.take_of_length_le (by simp)] at ht2
        walk_at "go"
        refine u_poly (l := D) (ts := ys.map fun k => (k, L k)) ⟨acc, hacc, ht2⟩ (by rw [List.length_map]; omega) fun ra rs H6 nra s6 hra hcr lr => ?_
        walk_at "go"
        intro t nt
        have hL : ∀ k, cof rs k = L k := fun k => by
          rw [hcr, cof_map hys]
          by_cases hm : k ∈ ys
          · rw [if_pos hm]
          · rw [if_neg hm, hz k hm]
        have sA : Same H4 H6 := ((Same.new0 nsl).trans s5).trans s6
        have sB : Same H H6 := (s3.trans s4).trans sA
        exact k t qa ra qs rs _ (free_same sB nt) (Same.new sB nt) upd_same (hqa.same (Same.new sA nt)) (hra.same (Same.new0 nt))
          ⟨fun k => by rw [eq, hL, cmul_ext (fun j => (hcq j).symm) (fun _ => rfl)], fun k hk => by rw [hL]; exact low k hk, fun k hk => by rw [hL]; exact high k hk⟩ (by omega) (fun k => by
            show (cof qs k).natAbs < BG
            rw [hcq]
            refine Nat.lt_of_le_of_lt (cof_le k htb) (Nat.lt_of_le_of_lt (Nat.mul_le_mul_right _ (by omega)) bP'))
theorem ok_Poly_floordiv {f : Addr} {fd : FuncData} (F : Fun K "__floordiv__" "Poly.__floordiv__" s_Poly___floordiv__ f fd) (h_check_divisor : Has P w K mg base "check_divisor" 2 ["value"] (spCheckDiv C)) (h_division : Has P w K mg base "division" 5 ["poly", "divisor"] (spDivision C)) : FnOk P w K mg base CX0 6 f fd ["self", "divisor"] (spFloor C) := by
  refine F.ok sc_Poly___floordiv__ (fun vs H Q E h => ?_) (fun cdv A outer s H vs Q E hr h => ?_)
  · obtain ⟨a, d, ts, ds, wd, rfl, _⟩ := h
    rfl
  · obtain ⟨a, d, ts, ds, wd, rfl, ha, hd, D, o, n, wl, k⟩ := h
    refine ⟨_, (pss_cons (ps_expr (pe_callH h_check_divisor (hr.mono (by first | decide | omega)) (pa_cons (pv 1) pa_nil)))
    (pss_one (ps_ret (pe_ix (ix_tupK (K := K)) (pe_callH h_division (hr.mono (by first | decide | omega)) (pa_cons (pv 0) (pa_cons (pv 1) pa_nil))) pe_int (fun _ _ => rfl))))), ?_⟩
    walk_at "go"
    refine ⟨d, ds, wd, rfl, hd, D, ?_⟩
    walk_at "go"
    refine ⟨a, d, ts, ds, wd, rfl, ha, hd, D, o, n, wl, fun t q r qs rs H' nt s ht hq hr R l sm => ?_⟩
    walk_at "go"
    exact k q qs rs H' s hq R l sm
end

set_option Elab.async false
set_option linter.all false
set_option maxRecDepth 100000
set_option maxHeartbeats 8000000
set_option pp.deepTerms false
set_option pp.deepTerms.threshold 12
set_option pp.maxSteps 1200

open PySem PySem.Spec PyProof.Rows L2
section
variable {P : Program} {w : World} {K : PySem.W.Frag} {mg : Str → Option Value} {base : Heap} {C : Addr}

local macro_rules | `(tactic| walk_at "s") => `(tactic| (first
  | (with_reducible refine r_dnew ?_)
  | (with_reducible refine r_dget2 ?_)
  | (with_reducible refine r_dget ?_)
  | (with_reducible refine r_dput ?_)
  | (with_reducible refine r_dsetd ?_)
  | ((with_reducible refine JarAt.isD (n := ?nn) (c := ?cc) ?hh ?_); (case hh => assumption))
  ))

local macro_rules | `(tactic| walk_at "s") => `(tactic| (first
  | (with_reducible refine r_prop ?_)
  | (with_reducible refine r_meth ?_)
  | (with_reducible refine r_make ?_)
  | (with_reducible refine r_fld ?_)
  | (with_reducible refine r_sfld ?_)
  | (with_reducible refine r_iOwn ?_)
  | ((with_reducible refine u_rowsAt (mg := ?mm) (C := ?CC) (dx := ?dd) (fv := ?vv) ?tt ?hh ?_); (case tt => assumption); (case hh => walk_at "hp"))
  | ((with_reducible refine r_isPoly (mg := ?mm) (dx := ?dd) (fs := ?ff) ?tt ?hh ?_); (case tt => assumption); (case hh => walk_at "hp"))
  | ((with_reducible refine r_isPolyI (mg := ?mm) ?tt ?_); (case tt => assumption))
  | ((with_reducible refine r_polyInt (mg := ?mm) (C := ?CC) (dx := ?dd) (fs := ?ff) ?tt ?hh ?_); (case tt => assumption); (case hh => walk_at "hp"))
  ))

def spIsOrder : Sp := fun vs H Q _ => ∃ n : Int, vs = [.int n] ∧ Q (.bl (decide (1 ≤ n))) H
theorem ok_is_order {f : Addr} {fd : FuncData} (F : Fun K "is_order" "is_order" s_is_order f fd) (h_is_integer : Has P w K mg base "is_integer" 1 ["value"] spIsInt) : FnOk P w K mg base CX0 2 f fd ["value"] spIsOrder := by
  refine F.ok sc_is_order (fun vs H Q E h => ?_) (fun cdv A outer s H vs Q E hr h => ?_)
  · obtain ⟨c, rfl, _⟩ := h
    rfl
  · obtain ⟨c, rfl, k⟩ := h
    refine ⟨_, (pss_one (ps_ret (pe_and (pe_callH h_is_integer (hr.mono (by first | decide | omega)) (pa_cons (pv 0) pa_nil)) (pe_one (pe_cmpR op_ge (pv 0) pe_int (nomark _)))))), ?_⟩
    walk_at "go"
    refine ⟨_, rfl, ?_⟩
    walk_at "go"
    exact k
def spCheckOrder : Sp := fun vs H Q _ => ∃ n : Int, vs = [.int n] ∧ 1 ≤ n ∧ Q .non H
theorem ok_check_order {f : Addr} {fd : FuncData} (F : Fun K "check_order" "check_order" s_check_order f fd) (h_is_order : Has P w K mg base "is_order" 2 ["value"] spIsOrder) : FnOk P w K mg base CX0 3 f fd ["value"] spCheckOrder := by
  refine F.ok sc_check_order (fun vs H Q E h => ?_) (fun cdv A outer s H vs Q E hr h => ?_)
  · obtain ⟨c, rfl, _⟩ := h
    rfl
  · obtain ⟨c, rfl, c1, k⟩ := h
    refine ⟨_, (pss_one (ps_if (pt_not (pt_val (pe_callH h_is_order (hr.mono (by first | decide | omega)) (pa_cons (pv 0) pa_nil))))
    (pss_one ps_never)
    pss_nil)), ?_⟩
    walk_at "go"
    refine ⟨_, rfl, ?_⟩
    walk_at "go"
    exact k
def spPrimes : Sp := fun vs H Q _ => ∃ n : Nat, vs = [.int n] ∧ 1 ≤ n ∧ n ≤ 10000 ∧ ∀ p H', H p = none → Same H H' → H' p = some (.lst (vints (M11.primes n))) → Q (.ref p) H'
theorem ok_primes_of {f : Addr} {fd : FuncData} (F : Fun K "primes_of" "primes_of" s_primes_of f fd) : FnOk P w K mg base CX0 1 f fd ["order"] spPrimes := by
  refine F.ok sc_primes_of (fun vs H Q E h => ?_) (fun cdv A outer s H vs Q E hr h => ?_)
  · obtain ⟨c, rfl, _⟩ := h
    rfl
  · obtain ⟨n, rfl, n1, n2, k⟩ := h
    refine ⟨_, (pss_cons (ps_set (i := 1) sc_primes_of.nd rfl (.inl rfl) (pe_lst pa_nil))
    (pss_cons (ps_set (i := 2) sc_primes_of.nd rfl (.inl rfl) (pv 0))
    (pss_cons (ps_set (i := 3) sc_primes_of.nd rfl (.inl rfl) pe_int)
    (pss_cons (ps_while PassesOwn.never (pt_cmpR op_le (pe_op op_mul (pv 3) (pv 3)) (pv 2) (nomark _))
    (pss_cons (ps_if (pt_cmpR op_eq (pe_op op_modN (pv 2) (pv 3)) pe_int (nomark _))
    (pss_cons (ps_expr (pe_bm PySem.F.plainAttrs_list PySem.F.slot_list_append PySem.F.type_list_append mt_append (pv 1) (pa_cons (pv 3) pa_nil)))
    (pss_one (ps_while PassesOwn.never (pt_cmpR op_eq (pe_op op_modN (pv 2) (pv 3)) pe_int (nomark _))
    (pss_one (ps_aug (i := 2) sc_primes_of.nd rfl (.inl rfl) (pv 3) iop_fdivW)))))
    pss_nil)
    (pss_one (ps_aug (i := 3) sc_primes_of.nd rfl (.inl rfl) pe_int ip_add))))
    (pss_cons (ps_if (pt_cmpR op_gt (pv 2) pe_int (nomark _))
    (pss_one (ps_expr (pe_bm PySem.F.plainAttrs_list PySem.F.slot_list_append PySem.F.type_list_append mt_append (pv 1) (pa_cons (pv 2) pa_nil))))
    pss_nil)
    (pss_one (ps_ret (pv 1)))))))), ?_⟩
    walk_at "go"
    intro p np
    walk_at "go"
    refine u_while (fun m σ H' => ∃ (l d : Nat) (acc : List Nat), σ = [some (.int n), some (.ref p), some (.int l), some (.int d)] ∧ m + d = 202 ∧ 2 ≤ d ∧ d ≤ 101 ∧ 1 ≤ l ∧ l ≤ 10000 ∧ acc ++ M11.pf m l d = M11.primes n ∧ acc.length ≤ d ∧ Same H H' ∧ H' p = some (.lst (vints acc))) 200 ?_ ?_
    · exact ⟨n, 2, [], rfl, rfl, by omega, by omega, n1, n2, rfl, by simp, Same.new0 np, upd_same⟩
    · rintro m σ H' ⟨l, d, acc, rfl, md, d2, d3, l1, l2, inv, al, sm, hp⟩
      have al2 : (vints acc).length < 100000 := by rw [vints_len]; omega
      walk_at "go"
      refine r_iteD (fun hd => ?_) (fun hd => ?_)
      · refine u_turn ?_
        have hd' : d * d ≤ l := by rw [← Int.natCast_mul] at hd; exact Int.ofNat_le.mp hd
        have dm : d ≤ 100 := by
          refine Decidable.byContradiction fun h => ?_
          have : 101 * 101 ≤ d * d := Nat.mul_le_mul (by omega) (by omega)
          omega
        obtain ⟨m', rfl⟩ : ∃ m', m = m' + 1 := ⟨m - 1, by omega⟩
        walk_at "go"
        rw [fmod_nat]
        refine r_iteD (fun hz => ?_) (fun hz => ?_)
        · have hz' : l % d = 0 := by omega
          walk_at "go"
          refine u_while (fun m2 σ2 H2 => ∃ l' : Nat, σ2 = [some (.int n), some (.ref p), some (.int l'), some (.int d)] ∧ H2 = upd H' p (HO.lst (vints acc ++ [V.int d])) ∧ 1 ≤ l' ∧ l' ≤ l ∧ l' < 2 ^ m2 ∧ M11.strip m2 l' d = M11.strip 14 l d) 14 ⟨l, rfl, rfl, l1, Nat.le_refl _, Nat.lt_of_le_of_lt l2 (by decide), rfl⟩ ?_
          rintro m2 σ2 H2 ⟨l', rfl, rfl, q1, q2, q3, q4⟩
          walk_at "go"
          rw [fmod_nat]
          have m2p : m2 ≠ 0 := by rintro rfl; omega
          obtain ⟨m3, rfl⟩ : ∃ m3, m2 = m3 + 1 := ⟨m2 - 1, by omega⟩
          refine r_iteD (fun hy => ?_) (fun hy => ?_)
          · have hy' : l' % d = 0 := by omega
            refine u_turn ?_
            walk_at "go"
            refine r_rI ⟨by omega, log_small (Nat.lt_of_le_of_lt (by omega : (d : Int).natAbs ≤ 202) (by decide +kernel))⟩ ?_
            walk_at "go"
            rw [fdiv_nat]
            refine ⟨m3, by omega, l' / d, rfl, rfl, (Nat.one_le_div_iff (by omega)).mpr (Nat.le_of_dvd q1 (Nat.dvd_of_mod_eq_zero hy')), Nat.le_trans (Nat.div_le_self _ _) q2, ?_, ?_⟩
            · exact Nat.div_lt_of_lt_mul (Nat.lt_of_lt_of_le q3 (by rw [Nat.pow_succ, Nat.mul_comm]; exact Nat.mul_le_mul_right _ d2))
            · rw [← q4, M11.strip_yes hy']
          · have hy' : ¬ l' % d = 0 := by omega
            rw [M11.strip_no hy'] at q4
            walk_at "go"
            refine ⟨m', by omega, l', d + 1, acc ++ [d], rfl, by omega, by omega, by omega, q1, by omega, ?_, ?_, Same.put sm np, ?_⟩
            · rw [← inv, M11.pf_yes hd' hz', q4, List.append_assoc]; rfl
            · rw [List.length_append]; simp; omega
            · rw [upd_same, vints_app]; rfl
        · have hz' : ¬ l % d = 0 := by omega
          walk_at "go"
          refine ⟨m', by omega, l, d + 1, acc, rfl, by omega, by omega, by omega, l1, l2, ?_, by omega, sm, hp⟩
          rw [← inv, M11.pf_no hd' hz']
      · have hd' : ¬ d * d ≤ l := fun h => hd (by rw [← Int.natCast_mul]; exact Int.ofNat_le.mpr h)
        obtain ⟨m', rfl⟩ : ∃ m', m = m' + 1 := ⟨m - 1, by omega⟩
        rw [M11.pf_end hd'] at inv
        walk_at "go"
        refine r_iteD (fun hl => ?_) (fun hl => ?_)
        · rw [if_pos (by omega)] at inv
          walk_at "go"
          refine k _ _ np (Same.put sm np) ?_
          rw [upd_same, ← inv, vints_app]; rfl
        · rw [if_neg (by omega), List.append_nil] at inv
          walk_at "go"
          refine k _ _ np sm ?_
          rw [hp, inv]
def spPhi : Sp := fun vs H Q _ => ∃ n : Nat, vs = [.int n] ∧ 1 ≤ n ∧ n ≤ 10000 ∧ ∀ H', Same H H' → Q (.int (M11.phi n)) H'
theorem ok_l_primes {f : Addr} {fd : FuncData} (F : Fun K "_law_primes" "_law_primes" s_l_primes f fd) (B : Bl mg) : FnOk P w K mg base CX0 1 f fd ["_law_cycle"] spPrimes := by
  refine F.ok sc_l_primes (fun vs H Q E h => ?_) (fun cdv A outer s H vs Q E hr h => ?_)
  · obtain ⟨c, rfl, _⟩ := h
    rfl
  · obtain ⟨n, rfl, n1, n2, k⟩ := h
    refine ⟨_, (pss_cons (ps_set (i := 1) sc_l_primes.nd rfl (.inl rfl) (pe_lst pa_nil))
    (pss_cons (ps_set (i := 2) sc_l_primes.nd rfl (.inl rfl) (pv 0))
    (pss_cutM (ps_for PassesOwn.never rfl (pi_range2 (by rfl) B.b_range (pa_cons pe_int (pa_cons (pe_op op_add (pv 0) pe_int) pa_nil))) (pg_name (i := 3) sc_l_primes.nd rfl (.inl rfl))
    (pss_cons (ps_if (pt_cmpR op_gt (pe_op op_mul (pv 3) (pv 3)) (pv 2) (nomark _))
    (pss_one ps_break)
    pss_nil)
    (pss_one (ps_if (pt_cmpR op_eq (pe_op op_modN (pe_callTy call_intI (by rfl) B.b_int (by decide +kernel) (pa_cons (pv 2) pa_nil)) (pv 3)) pe_int (nomark _))
    (pss_cons (ps_expr (pe_bm PySem.F.plainAttrs_list PySem.F.slot_list_append PySem.F.type_list_append mt_append (pv 1) (pa_cons (pv 3) pa_nil)))
    (pss_one (ps_while PassesOwn.never (pt_cmpR op_eq (pe_op op_modN (pe_callTy call_intI (by rfl) B.b_int (by decide +kernel) (pa_cons (pv 2) pa_nil)) (pv 3)) pe_int (nomark _))
    (pss_one (ps_set (i := 2) sc_l_primes.nd rfl (.inl rfl) (pe_op op_fdivW (pv 2) (pv 3)))))))
    pss_nil))))
    (pss_cons (ps_if (pt_cmpR op_gt (pv 2) pe_int (nomark _))
    (pss_one (ps_expr (pe_bm PySem.F.plainAttrs_list PySem.F.slot_list_append PySem.F.type_list_append mt_append (pv 1) (pa_cons (pv 2) pa_nil))))
    pss_nil)
    (pss_one (ps_ret (pv 1))))))), ?_⟩
    walk_at "go"
    intro p np
    walk_at "go"
    refine r_cut (fun σ' H' => ∃ (l : Nat) (acc : List Nat) (y : Option V), σ' = [some (.int n), some (.ref p), some (.int l), y] ∧ acc.length ≤ 200 ∧ acc ++ (if 1 < l then [l] else []) = M11.primes n ∧ Same H H' ∧ H' p = some (.lst (vints acc))) ?_ ?_
    · walk_at "go"
      refine u_for2 ?_ (fun i σ H' => ∃ (l : Nat) (acc : List Nat) (y : Option V), σ = [some (.int n), some (.ref p), some (.int l), y] ∧ i ≤ 99 ∧ 1 ≤ l ∧ l ≤ n ∧ acc ++ M11.pf (200 - i) l (2 + i) = M11.primes n ∧ acc.length ≤ i ∧ Same H H' ∧ H' p = some (.lst (vints acc))) ?_ ?_ ?_
      · refine ⟨?_, ?_, ?_, ?_⟩ <;> omega
      · exact ⟨n, [], _, rfl, by omega, n1, Nat.le_refl _, M11.start_eq n, Nat.le_refl _, Same.new0 np, upd_same⟩
      · rintro i σ H' hi ⟨l, acc, y, rfl, i9, l1, l2, inv, al, sm, hp⟩
        have al2 : (vints acc).length < 100000 := by rw [vints_len]; omega
        rw [show (2 + (i : Int)) = ((2 + i : Nat) : Int) by omega]
        obtain ⟨m, hm⟩ : ∃ m, 200 - i = m + 1 := ⟨199 - i, by omega⟩
        rw [hm] at inv
        walk_at "go"
        refine r_iteD (fun hd => ?_) (fun hd => ?_)
        · have hd' : ¬ (2 + i) * (2 + i) ≤ l := by rw [← Int.natCast_mul] at hd; exact Nat.not_le.mpr (Int.ofNat_lt.mp hd)
          rw [M11.pf_end hd'] at inv
          walk_at "go"
          exact ⟨l, acc, _, rfl, by omega, inv, sm, hp⟩
        · have hd' : (2 + i) * (2 + i) ≤ l := by
            rw [← Int.natCast_mul] at hd
            exact Nat.not_lt.mp (fun h => hd (Int.ofNat_lt.mpr h))
          have dm : 2 + i ≤ 100 := by
            refine Decidable.byContradiction fun h => ?_
            have : 101 * 101 ≤ (2 + i) * (2 + i) := Nat.mul_le_mul (by omega) (by omega)
            omega
          generalize hdd : 2 + i = d at *
          walk_at "go"
          rw [fmod_nat]
          refine r_iteD (fun hz => ?_) (fun hz => ?_)
          · have hz' : l % d = 0 := by omega
            walk_at "go"
            refine u_while (fun m2 σ2 H2 => ∃ l' : Nat, σ2 = [some (.int n), some (.ref p), some (.int l'), some (.int d)] ∧ H2 = upd H' p (HO.lst (vints acc ++ [V.int d])) ∧ 1 ≤ l' ∧ l' ≤ l ∧ l' < 2 ^ m2 ∧ M11.strip m2 l' d = M11.strip 14 l d) 14 ⟨l, rfl, rfl, l1, Nat.le_refl _, Nat.lt_of_le_of_lt (Nat.le_trans l2 n2) (by decide), rfl⟩ ?_
            rintro m2 σ2 H2 ⟨l', rfl, rfl, q1, q2, q3, q4⟩
            walk_at "go"
            rw [fmod_nat]
            have m2p : m2 ≠ 0 := by rintro rfl; omega
            obtain ⟨m3, rfl⟩ : ∃ m3, m2 = m3 + 1 := ⟨m2 - 1, by omega⟩
            refine r_iteD (fun hy => ?_) (fun hy => ?_)
            · have hy' : l' % d = 0 := by omega
              refine u_turn ?_
              have dq : CDivW (l' : Int) (d : Int) := ⟨by omega, log_small (Nat.lt_of_le_of_lt (by omega : (d : Int).natAbs ≤ 202) (by decide +kernel))⟩
              walk_at "go"
              rw [fdiv_nat]
              refine ⟨m3, by omega, l' / d, rfl, rfl, (Nat.one_le_div_iff (by omega)).mpr (Nat.le_of_dvd q1 (Nat.dvd_of_mod_eq_zero hy')), Nat.le_trans (Nat.div_le_self _ _) q2, ?_, ?_⟩
              · exact Nat.div_lt_of_lt_mul (Nat.lt_of_lt_of_le q3 (by rw [Nat.pow_succ, Nat.mul_comm]; exact Nat.mul_le_mul_right _ (by omega)))
              · rw [← q4, M11.strip_yes hy']
            · have hy' : ¬ l' % d = 0 := by omega
              rw [M11.strip_no hy'] at q4
              walk_at "go"
              refine ⟨l', acc ++ [d], _, rfl, by omega, q1, by omega, ?_, ?_, Same.put sm np, ?_⟩
              · rw [← inv, M11.pf_yes hd' hz', q4, List.append_assoc, show 200 - (i + 1) = m by omega, show 2 + (i + 1) = d + 1 by omega]; rfl
              · rw [List.length_append]; simp; omega
              · rw [upd_same, vints_app]; rfl
          · have hz' : ¬ l % d = 0 := by omega
            walk_at "go"
            refine ⟨l, acc, _, rfl, by omega, l1, l2, ?_, by omega, sm, hp⟩
            rw [← inv, M11.pf_no hd' hz', show 200 - (i + 1) = m by omega, show 2 + (i + 1) = d + 1 by omega]
      · rintro σ H' ⟨l, acc, y, rfl, i9, l1, l2, inv, al, sm, hp⟩
        have e : ((n : Int) + 1 - 2).toNat = n - 1 := by omega
        rw [e] at inv i9 al
        obtain ⟨m, hm⟩ : ∃ m, 200 - (n - 1) = m + 1 := ⟨199 - (n - 1), by omega⟩
        rw [hm, M11.pf_end (by
          have : l < 2 + (n - 1) := by omega
          intro h
          have h2 : 2 + (n - 1) ≤ (2 + (n - 1)) * (2 + (n - 1)) := Nat.le_mul_of_pos_left _ (by omega)
          omega)] at inv
        exact ⟨l, acc, _, rfl, by omega, inv, sm, hp⟩
    · rintro σ H' ⟨l, acc, y, rfl, al, inv, sm, hp⟩
      have al2 : (vints acc).length < 100000 := by rw [vints_len]; omega
      walk_at "go"
      refine r_iteD (fun hl => ?_) (fun hl => ?_)
      · rw [if_pos (by omega)] at inv
        walk_at "go"
        refine k _ _ np (Same.put sm np) ?_
        rw [upd_same, ← inv, vints_app]; rfl
      · rw [if_neg (by omega), List.append_nil] at inv
        walk_at "go"
        refine k _ _ np sm ?_
        rw [hp, inv]
theorem ok_l_totient {f : Addr} {fd : FuncData} (F : Fun K "_law_totient" "_law_totient" s_l_totient f fd) (h_l_primes : Has P w K mg base "_law_primes" 1 ["_law_cycle"] spPrimes) : FnOk P w K mg base CX0 2 f fd ["_law_cycle"] spPhi := by
  refine F.ok sc_l_totient (fun vs H Q E h => ?_) (fun cdv A outer s H vs Q E hr h => ?_)
  · obtain ⟨c, rfl, _⟩ := h
    rfl
  · obtain ⟨n, rfl, n1, n2, k⟩ := h
    refine ⟨_, (pss_cons (ps_set (i := 1) sc_l_totient.nd rfl (.inl rfl) (pv 0))
    (pss_cons (ps_for PassesOwn.never rfl (pi_list (pe_callH h_l_primes (hr.mono (by first | decide | omega)) (pa_cons (pv 0) pa_nil))) (pg_name (i := 2) sc_l_totient.nd rfl (.inl rfl))
    (pss_one (ps_set (i := 1) sc_l_totient.nd rfl (.inl rfl) (pe_op op_mul (pe_op op_fdivW (pv 1) (pv 2)) (pe_op op_sub (pv 2) pe_int)))))
    (pss_one (ps_ret (pv 1))))), ?_⟩
    walk_at "go"
    refine ⟨n, rfl, n1, n2, fun p H1 np sm hp => ?_⟩
    refine u_forL (SqL.of hp) (fun i σ H' => ∃ y, σ = [some (.int n), some (.int (M11.phiTo n i)), y] ∧ H' = H1) ⟨_, rfl, rfl⟩ ?_ ?_ ?_
    · rintro i σ H' _ ⟨y, rfl, rfl⟩
      exact SqL.of hp
    · rintro i x σ H' hx ⟨y, rfl, rfl⟩
      obtain ⟨q, hq, rfl⟩ := vints_get hx
      obtain ⟨q2, qn⟩ := M11.primes_mem (List.mem_of_getElem? hq)
      have lq : (q : Int).natAbs.log2 < 9000 := log_small (Nat.lt_of_le_of_lt (by omega : (q : Int).natAbs ≤ 10000) (by decide +kernel))
      have dq : CDivW (M11.phiTo n i : Int) (q : Int) := ⟨by omega, lq⟩
      walk_at "go"
      refine ⟨some (.int q), ?_, rfl⟩
      rw [M11.phiTo_succ hq, fdiv_nat, show ((q : Int) - 1) = ((q - 1 : Nat) : Int) by omega, ← Int.natCast_mul]
      rfl
    · rintro σ H' ⟨y, rfl, rfl⟩
      walk_at "go"
      rw [vints_len, M11.phiTo_all]
      exact k _ sm
end

set_option Elab.async false
set_option linter.all false
set_option maxRecDepth 100000
set_option maxHeartbeats 4000000

open PySem PySem.Spec PyProof.Rows L2
section
variable {P : Program} {w : World} {K : PySem.W.Frag} {mg : Str → Option Value} {base : Heap} {C : Addr}

local macro_rules | `(tactic| walk_at "s") => `(tactic| (first
  | (with_reducible refine r_dnew ?_)
  | (with_reducible refine r_dget2 ?_)
  | (with_reducible refine r_dget ?_)
  | (with_reducible refine r_dput ?_)
  | (with_reducible refine r_dsetd ?_)
  | ((with_reducible refine JarAt.isD (n := ?nn) (c := ?cc) ?hh ?_); (case hh => assumption))
  ))

local macro_rules | `(tactic| walk_at "s") => `(tactic| (first
  | (with_reducible refine r_prop ?_)
  | (with_reducible refine r_meth ?_)
  | (with_reducible refine r_make ?_)
  | (with_reducible refine r_fld ?_)
  | (with_reducible refine r_sfld ?_)
  | (with_reducible refine r_iOwn ?_)
  | ((with_reducible refine u_rowsAt (mg := ?mm) (C := ?CC) (dx := ?dd) (fv := ?vv) ?tt ?hh ?_); (case tt => assumption); (case hh => walk_at "hp"))
  | ((with_reducible refine r_isPoly (mg := ?mm) (dx := ?dd) (fs := ?ff) ?tt ?hh ?_); (case tt => assumption); (case hh => walk_at "hp"))
  | ((with_reducible refine r_isPolyI (mg := ?mm) ?tt ?_); (case tt => assumption))
  | ((with_reducible refine r_polyInt (mg := ?mm) (C := ?CC) (dx := ?dd) (fs := ?ff) ?tt ?hh ?_); (case tt => assumption); (case hh => walk_at "hp"))
  ))

local macro_rules | `(tactic| walk_at "s") => `(tactic| (first
  | (with_reducible refine r_iKeys ?_)
  | (with_reducible refine rl_disp ?_)
  | (with_reducible refine rl_pc ?_)
  | (with_reducible refine rl_pn ?_)
  ))
local macro_rules | `(tactic| walk_at "s") => `(tactic| ((with_reducible refine JarIn.isD (lo := ?ll) (hi := ?uu) (c := ?cc) ?hh ?_); (case hh => assumption)))
end

set_option Elab.async false
set_option linter.all false
set_option maxRecDepth 100000
set_option maxHeartbeats 8000000
set_option pp.deepTerms false
set_option pp.deepTerms.threshold 12
set_option pp.maxSteps 1200

open PySem PySem.Spec PyProof.Rows L2
theorem u_lcT0 {σ : L2.St} {H : Hp} {K : PySem.W.Frag} {g : TG} {p : Addr} {xs : List V} {tt : TT} {te : TE} {vs : List Nat} {Qd : Addr → Hp → Prop} (h : SqT K H p xs) (I : Addr → Nat → List V → Hp → Prop) (h0 : ∀ D, H D = none → I D 0 [] (upd H D (.lst [])))
    (hl : ∀ D i acc H', H D = none → H' D = some (.lst acc) → I D i acc H' → SqT K H' p xs)
    (hs : ∀ D i x acc H', H D = none → xs[i]? = some x → H' D = some (.lst acc) → I D i acc H' → g x (wipe σ vs) H' fun σ2 H2 => wipe σ2 vs = wipe σ vs ∧ tt σ2 H2 fun b H3 => if b = true then te σ2 H3 fun y H4 => LcPush D I i H4 y else LcSkip D I i H3)
    (hd : ∀ D acc H', H D = none → H' D = some (.lst acc) → I D xs.length acc H' → Qd D H') :
    ∀ D, H D = none → ∃ W : Nat → Nat → Hp → Prop, (∃ m, W 0 m (upd H D (.lst []))) ∧ ∀ i m H, W i m H →
      ((Itt K p).stop i H ∧ Qd D H) ∨ ((Itt K p).go i H ∧ ∃ Nx : Hp → Prop, (∀ H', Nx H' → ∃ m', m' < m ∧ W (i + 1) m' H') ∧ ∀ x H', (Itt K p).yld i H x H' → g x (wipe σ vs) H' fun σ2 H2 => wipe σ2 vs = wipe σ vs ∧ tt σ2 H2 fun b H3 =>
        if b = true then te σ2 H3 fun y H4 => ∃ acc, H4 D = some (.lst acc) ∧ acc.length < sizeLine ∧ Nx (upd H4 D (.lst (acc ++ [y]))) else Nx H3) := by
  obtain ⟨a, e, _, r⟩ := u_lcT h I h0 hl hs hd
  cases e
  exact r
section
variable {P : Program} {w : World} {K : PySem.W.Frag} {mg : Str → Option Value} {base : Heap} {C : Addr}

local macro_rules | `(tactic| walk_at "s") => `(tactic| (first
  | (with_reducible refine r_dnew ?_)
  | (with_reducible refine r_dget2 ?_)
  | (with_reducible refine r_dget ?_)
  | (with_reducible refine r_dput ?_)
  | (with_reducible refine r_dsetd ?_)
  | ((with_reducible refine JarAt.isD (n := ?nn) (c := ?cc) ?hh ?_); (case hh => assumption))
  ))

local macro_rules | `(tactic| walk_at "s") => `(tactic| (first
  | (with_reducible refine r_prop ?_)
  | (with_reducible refine r_meth ?_)
  | (with_reducible refine r_make ?_)
  | (with_reducible refine r_fld ?_)
  | (with_reducible refine r_sfld ?_)
  | (with_reducible refine r_iOwn ?_)
  | ((with_reducible refine u_rowsAt (mg := ?mm) (C := ?CC) (dx := ?dd) (fv := ?vv) ?tt ?hh ?_); (case tt => assumption); (case hh => walk_at "hp"))
  | ((with_reducible refine r_isPoly (mg := ?mm) (dx := ?dd) (fs := ?ff) ?tt ?hh ?_); (case tt => assumption); (case hh => walk_at "hp"))
  | ((with_reducible refine r_isPolyI (mg := ?mm) ?tt ?_); (case tt => assumption))
  | ((with_reducible refine r_polyInt (mg := ?mm) (C := ?CC) (dx := ?dd) (fs := ?ff) ?tt ?hh ?_); (case tt => assumption); (case hh => walk_at "hp"))
  ))

theorem ok_raw_ring {f : Addr} {fd : FuncData} (F : Fun K "raw_ring" "raw_ring" s_raw_ring f fd) (G_Poly : PolyT K mg C) (h_primes_of : Has P w K mg base "primes_of" 1 ["order"] spPrimes) (hc_Poly : HasC P w K mg base "Poly" C 3 ["self", "terms"] (spInit C))
   (hs_Poly___iter__ : HasS P w K mg base C "__iter__" 1 ["self"] (spIter K C "rows")) (hm_Poly___floordiv__ : HasM P w K mg base C "__floordiv__" 6 ["self", "divisor"] (spFloor C)) : FnOk P w K mg base CX0 7 f fd ["order"] (spRing C) := by
  refine F.ok sc_raw_ring (fun vs H Q E h => ?_) (fun cdv A outer s H vs Q E hr h => ?_)
  · obtain ⟨n, rfl, _⟩ := h
    rfl
  · obtain ⟨n, rfl, n1, n2, k⟩ := h
    refine ⟨_, (pss_cons (ps_set (i := 1) sc_raw_ring.nd rfl (.inl rfl) (pe_makeH hc_Poly (hr.mono (by first | decide | omega)) (pa_cons (pe_lst (pa_cons (pe_tup (pa_cons pe_int (pa_cons (pe_un un_neg pe_int) pa_nil))) (pa_cons (pe_tup (pa_cons pe_int (pa_cons pe_int pa_nil))) pa_nil))) pa_nil)))
    (pss_cons (ps_set (i := 2) sc_raw_ring.nd rfl (.inr rfl) (pv 0))
    (pss_cons (ps_for PassesOwn.never rfl (pi_list (pe_callH h_primes_of (hr.mono (by first | decide | omega)) (pa_cons (pv 0) pa_nil))) (pg_name (i := 3) sc_raw_ring.nd rfl (.inr rfl))
    (pss_cons (ps_set (i := 1) sc_raw_ring.nd rfl (.inl rfl) (pe_op (op_own2 (op := .FloorDiv) hm_Poly___floordiv__ G_Poly.self (hr.mono (by first | decide | omega))) (pe_makeH hc_Poly (hr.mono (by first | decide | omega)) (pa_cons (pe_lc (g := (gTup K 2 (gCons (gName 4) (gCons (gName 5) gNil)))) (own := [("power", 4), ("number", 5)]) rfl sc_raw_ring.nd (pi_ownK (K := K) (pv 1) hs_Poly___iter__ (hr.mono (by first | decide | omega))) (blkOk_by (N := ["order", "result", "wide", "prime", "power", "number"]) (sc := defScope s_raw_ring) (by decide +kernel)) (fun _ _ _ _ _ => (pg_tupK (K := K) rfl (pgs_cons (pg_name (i := 4) sc_raw_ring.nd rfl (.inl rfl)) (pgs_cons (pg_name (i := 5) sc_raw_ring.nd rfl (.inl rfl)) pgs_nil)))) (fun _ _ _ _ _ => pts_nil) (fun _ _ _ _ _ => (pe_tup (pa_cons (pe_op op_mulW (pv 4) (pv 3)) (pa_cons (pv 5) pa_nil))))) pa_nil)) (pv 1)))
    (pss_one (ps_aug (i := 2) sc_raw_ring.nd rfl (.inr rfl) (pv 3) iop_fdivW))))
    (pss_one (ps_ret (pe_makeH hc_Poly (hr.mono (by first | decide | omega)) (pa_cons (pe_lc (g := (gTup K 2 (gCons (gName 4) (gCons (gName 5) gNil)))) (own := [("power", 4), ("number", 5)]) rfl sc_raw_ring.nd (pi_ownK (K := K) (pv 1) hs_Poly___iter__ (hr.mono (by first | decide | omega))) (blkOk_by (N := ["order", "result", "wide", "prime", "power", "number"]) (sc := defScope s_raw_ring) (by decide +kernel)) (fun _ _ _ _ _ => (pg_tupK (K := K) rfl (pgs_cons (pg_name (i := 4) sc_raw_ring.nd rfl (.inl rfl)) (pgs_cons (pg_name (i := 5) sc_raw_ring.nd rfl (.inl rfl)) pgs_nil)))) (fun _ _ _ _ _ => pts_nil) (fun _ _ _ _ _ => (pe_tup (pa_cons (pe_op op_mulW (pv 4) (pv 2)) (pa_cons (pv 5) pa_nil))))) pa_nil))))))), ?_⟩
    walk_at "go"
    intro t1 nt1
    walk_at "go"
    intro t2 nt2
    walk_at "go"
    intro l nl
    walk_at "go"
    have hl : TermsAt (upd (upd (upd H t1 (.tup [.int 0, .int (-1)])) t2 (.tup [.int 1, .int 1])) l (.lst [.ref t1, .ref t2])) l [(0, -1), (1, 1)] :=
      ⟨_, upd_same, t1, (0, -1), [(1, 1)], rfl, rfl, h_keep (h_keep upd_same nt2) nl, t2, (1, 1), [], rfl, rfl, h_keep upd_same nl, rfl⟩
    have s0 : Same H (upd (upd (upd H t1 (.tup [.int 0, .int (-1)])) t2 (.tup [.int 1, .int 1])) l (.lst [.ref t1, .ref t2])) := Same.new (Same.new (Same.new0 nt1) nt2) nl
    refine u_poly hl (by decide) fun a ts H1 na s1 ha hca la => ?_
    have sA := s0.trans s1
    clear s0 s1 hl nl nt1 nt2
    walk_at "go"
    refine ⟨n, rfl, n1, by omega, fun p H2 np s2 hp => ?_⟩
    have hok := okN_at n1 n2
    unfold okN at hok
    simp only [Bool.and_eq_true] at hok
    have hch := hok.1.2
    refine u_forL (SqL.of hp) (fun i σ H' => ∃ (a : Addr) (ts : Terms) (m wd : Nat) (y3 y4 y5 : Option V), σ = [some (.int n), some (.ref a), some (.int wd), y3, y4, y5] ∧ PolyAt C H' a ts ∧ (∀ k, cof ts k = cofL (ringL m) k) ∧ chainOk n ((M11.primes n).drop i) m wd = true ∧ wd ≤ n ∧ (1 ≤ m ∧ m ≤ 210) ∧ Same H2 H') ?_ ?_ ?_ ?_
    · exact ⟨a, ts, 1, n, _, _, _, rfl, ha.same s2, fun k => (hca k).trans (cof_termsL [-1, 1] k), hch, Nat.le_refl _, ⟨by omega, by omega⟩, Same.refl _⟩
    · rintro i σ H' _ ⟨a, ts, m, wd, y3, y4, y5, rfl, _, _, _, _, _, sm⟩
      exact SqL.of (sm _ _ hp)
    · rintro i x σ H' hx ⟨a, ts, m, wd, y3, y4, y5, rfl, ha', hcm, hk, wdn, ⟨m01, m02⟩, sm⟩
      obtain ⟨q, hq, rfl⟩ := vints_get hx
      have hi := (List.getElem?_eq_some_iff.mp hq).1
      have hd : (M11.primes n).drop i = q :: (M11.primes n).drop (i + 1) := by rw [List.drop_eq_getElem_cons hi, (List.getElem?_eq_some_iff.mp hq).2]
      rw [hd] at hk
      unfold chainOk at hk
      simp only [Bool.and_eq_true, decide_eq_true_eq] at hk
      obtain ⟨⟨⟨⟨⟨q2, mq⟩, m1⟩, he⟩, hx2⟩, hk2⟩ := hk
      have R := ringF_of he
      have q210 : q ≤ 210 := Nat.le_trans (Nat.le_mul_of_pos_left q m1) mq
      obtain ⟨dx, r, vs, g1, hr', ht, hc⟩ := id ha'
      have hvl := ht.length
      have pm := phi_le' m
      have mm : m ≤ 210 := Nat.le_trans (Nat.le_mul_of_pos_right m (by omega)) mq
      have tl : ts.length ≤ m + 1 := canon_len hc fun k hk => by rw [hcm] at hk; have := ring_supp R hk; omega
      walk_at "go"
      refine ⟨a, dx, _, r, vs, rfl, g1, rows_look, .of hr', u_lcT0 (.of hr') (fun D i acc H3 => (TermsL H3 acc (mulP q (ts.take i)) ∧ i ≤ vs.length) ∧ Same H' H3) (fun D hD => ⟨⟨rfl, Nat.zero_le _⟩, Same.new0 hD⟩) (fun D i acc H3 _ _ ⟨_, s1⟩ => .of (s1 _ _ hr')) ?_ ?_⟩
      · rintro D i2 x acc H3 hD hx hacc ⟨⟨ht2, hi0⟩, s1⟩
        obtain ⟨b, p', rfl, hp', hb⟩ := ht.at i2 hx
        have hi2 := (List.getElem?_eq_some_iff.mp hx).1
        have hb2 := s1 _ _ hb
        have et : ts.take (i2 + 1) = ts.take i2 ++ [p'] := by rw [List.take_succ, hp']; rfl
        have al : acc.length ≤ i2 := by
          rw [ht2.length, mulP, List.length_map, List.length_take]; omega
        have pn := List.mem_of_getElem? hp'
        have ps := ring_supp R (k := p'.1) (by rw [← hcm, hc.at pn]; exact hc.nz p' pn)
        have cm : CMulW p'.1 q := mulW_of (Nat.lt_of_le_of_lt (by omega : p'.1.natAbs ≤ 210) (by decide +kernel)) (Nat.lt_of_le_of_lt (by omega : (q : Int).natAbs ≤ 210) (by decide +kernel))
        walk_at "go"
        refine ⟨rfl, ?_⟩
        walk_at "go"
        intro t nt
        refine u_push (h_keep hacc nt) (by omega) ⟨⟨?_, hi2⟩, Same.put (Same.new s1 nt) hD⟩
        have t1 : Tk H3 (upd (upd H3 t (.tup [.int (p'.1 * q), .int p'.2])) D (.lst (acc ++ [.ref t]))) := ((Tk.refl _).new nt).lst (h_keep hacc nt)
        rw [et, mulP, List.map_append]
        exact (ht2.tk t1).app (.one ((upd_ne (ne_of_none hacc nt).symm).trans upd_same))
      · rintro D acc H3 hD hacc ⟨⟨ht2, hi0⟩, s1⟩
        rw [List.take_of_length_le (by omega)] at ht2
        walk_at "go"
        refine u_poly (l := D) (ts := mulP q ts) ⟨acc, hacc, ht2⟩ (by rw [mulP, List.length_map]; omega) fun b us H4 nb s4 hb hcu hl => ?_
        have hu : ∀ k, cof us k = cof (mulP q ts) k := hcu
        obtain ⟨b9, sup⟩ := mulP_supp R (by omega : 1 ≤ q) hcm hu
        obtain ⟨dx4, r4, vs4, g4, _, _, hcc⟩ := id hb
        have D4 := ring_divT R hc hcm
        have ha4 := ha'.same (s1.trans s4)
        obtain ⟨dx5, r5, vs5, g5, _⟩ := id ha4
        walk_at "go"
        refine ⟨b, dx4, _, a, dx5, _, rfl, rfl, g4, g5, b, a, us, ts, _, rfl, hb, ha4, D4, divOk_ring (N := 210) (B := 9) hcc hc (by omega) (fun k hk => by have := sup k hk; omega) (by decide) b9 (by decide +kernel) (fun k => by rw [hcm]; exact R.bd k) (fun k hk => by rw [hcm] at hk; have := ring_supp R hk; omega), near_of (N := 210) hcc (fun k hk => by have := sup k hk; omega) (by decide), by omega, fun q' qs rs H5 s5 hq' DR lq _ => ?_⟩
        walk_at "go"
        refine r_rI ⟨by omega, log_small (Nat.lt_of_le_of_lt (by omega : (q : Int).natAbs ≤ 210) (by decide +kernel))⟩ ?_
        rw [fdiv_nat]
        exact ⟨q', qs, m * q, wd / q, _, _, _, rfl, hq', ring_step hx2 (by omega) hcm hu D4 DR, hk2, Nat.le_trans (Nat.div_le_self _ _) wdn, ⟨Nat.le_trans m1 (Nat.le_mul_of_pos_right m (by omega)), mq⟩, sm.trans (s1.trans (s4.trans s5))⟩
    · rintro σ H' ⟨a, ts, m, wd, y3, y4, y5, rfl, ha', hcm, hk, wdn, ⟨m01, m02⟩, sm⟩
      rw [vints_len, List.drop_length] at hk
      unfold chainOk at hk
      simp only [Bool.and_eq_true, decide_eq_true_eq] at hk
      obtain ⟨wd1, hx2⟩ := hk
      obtain ⟨dx, r, vs, g1, hr', ht, hc⟩ := id ha'
      have hvl := ht.length
      have R : RingF m := ringF m01 m02
      have pm := phi_le' m
      have tl : ts.length ≤ m + 1 := canon_len hc fun k hk => by rw [hcm] at hk; have := ring_supp R hk; omega
      walk_at "go"
      refine ⟨a, dx, _, r, vs, rfl, g1, rows_look, .of hr', u_lcT0 (.of hr') (fun D i acc H3 => (TermsL H3 acc (mulP wd (ts.take i)) ∧ i ≤ vs.length) ∧ Same H' H3) (fun D hD => ⟨⟨rfl, Nat.zero_le _⟩, Same.new0 hD⟩) (fun D i acc H3 _ _ ⟨_, s1⟩ => .of (s1 _ _ hr')) ?_ ?_⟩
      · rintro D i2 x acc H3 hD hx hacc ⟨⟨ht2, hi0⟩, s1⟩
        obtain ⟨b, p', rfl, hp', hb⟩ := ht.at i2 hx
        have hi2 := (List.getElem?_eq_some_iff.mp hx).1
        have hb2 := s1 _ _ hb
        have et : ts.take (i2 + 1) = ts.take i2 ++ [p'] := by rw [List.take_succ, hp']; rfl
        have al : acc.length ≤ i2 := by
          rw [ht2.length, mulP, List.length_map, List.length_take]; omega
        have pn := List.mem_of_getElem? hp'
        have ps := ring_supp R (k := p'.1) (by rw [← hcm, hc.at pn]; exact hc.nz p' pn)
        have cm : CMulW p'.1 wd := mulW_of (Nat.lt_of_le_of_lt (by omega : p'.1.natAbs ≤ 210) (by decide +kernel)) (Nat.lt_of_le_of_lt (by omega : (wd : Int).natAbs ≤ 210) (by decide +kernel))
        walk_at "go"
        refine ⟨rfl, ?_⟩
        walk_at "go"
        intro t nt
        refine u_push (h_keep hacc nt) (by omega) ⟨⟨?_, hi2⟩, Same.put (Same.new s1 nt) hD⟩
        have t1 : Tk H3 (upd (upd H3 t (.tup [.int (p'.1 * wd), .int p'.2])) D (.lst (acc ++ [.ref t]))) := ((Tk.refl _).new nt).lst (h_keep hacc nt)
        rw [et, mulP, List.map_append]
        exact (ht2.tk t1).app (.one ((upd_ne (ne_of_none hacc nt).symm).trans upd_same))
      · rintro D acc H3 hD hacc ⟨⟨ht2, hi0⟩, s1⟩
        rw [List.take_of_length_le (by omega)] at ht2
        walk_at "go"
        refine u_poly (l := D) (ts := mulP wd ts) ⟨acc, hacc, ht2⟩ (by rw [mulP, List.length_map]; omega) fun b us H4 nb s4 hb hcu hl => ?_
        have Rn := ringF n1 n2
        obtain ⟨_, _, _, _, _, _, hcc⟩ := id hb
        have e := ringT_eq Rn hcc (ring_last hx2 wd1 hcm hcu)
        subst e
        exact k b H4 (sA.trans (s2.trans (sm.trans (s1.trans s4)))) hb
theorem ok_ring {f : Addr} {fd : FuncData} (F : Fun K "ring" "ring" s_ring f fd) (h_check_order : Has P w K mg base "check_order" 3 ["value"] spCheckOrder) (h_raw_ring : Has P w K mg base "raw_ring" 7 ["order"] (spRing C)) : FnOk P w K mg base CX0 8 f fd ["order"] (spRing C) := by
  refine F.ok sc_ring (fun vs H Q E h => ?_) (fun cdv A outer s H vs Q E hr h => ?_)
  · obtain ⟨n, rfl, _⟩ := h
    rfl
  · obtain ⟨n, rfl, n1, n2, k⟩ := h
    refine ⟨_, (pss_cons (ps_expr (pe_callH h_check_order (hr.mono (by first | decide | omega)) (pa_cons (pv 0) pa_nil)))
    (pss_one (ps_ret (pe_callH h_raw_ring (hr.mono (by first | decide | omega)) (pa_cons (pv 0) pa_nil))))), ?_⟩
    walk_at "go"
    refine ⟨n, rfl, by omega, ?_⟩
    walk_at "go"
    exact ⟨n, rfl, n1, n2, k⟩
end

set_option Elab.async false
set_option linter.all false
set_option maxRecDepth 100000
set_option maxHeartbeats 8000000
set_option pp.deepTerms false
set_option pp.deepTerms.threshold 12
set_option pp.maxSteps 1200

open PySem PySem.Spec PyProof.Rows L2
section
variable {P : Program} {w : World} {K : PySem.W.Frag} {mg : Str → Option Value} {base : Heap} {C : Addr}

local macro_rules | `(tactic| walk_at "s") => `(tactic| (first
  | (with_reducible refine r_dnew ?_)
  | (with_reducible refine r_dget2 ?_)
  | (with_reducible refine r_dget ?_)
  | (with_reducible refine r_dput ?_)
  | (with_reducible refine r_dsetd ?_)
  | ((with_reducible refine JarAt.isD (n := ?nn) (c := ?cc) ?hh ?_); (case hh => assumption))
  ))

local macro_rules | `(tactic| walk_at "s") => `(tactic| (first
  | (with_reducible refine r_prop ?_)
  | (with_reducible refine r_meth ?_)
  | (with_reducible refine r_make ?_)
  | (with_reducible refine r_fld ?_)
  | (with_reducible refine r_sfld ?_)
  | (with_reducible refine r_iOwn ?_)
  | ((with_reducible refine u_rowsAt (mg := ?mm) (C := ?CC) (dx := ?dd) (fv := ?vv) ?tt ?hh ?_); (case tt => assumption); (case hh => walk_at "hp"))
  | ((with_reducible refine r_isPoly (mg := ?mm) (dx := ?dd) (fs := ?ff) ?tt ?hh ?_); (case tt => assumption); (case hh => walk_at "hp"))
  | ((with_reducible refine r_isPolyI (mg := ?mm) ?tt ?_); (case tt => assumption))
  | ((with_reducible refine r_polyInt (mg := ?mm) (C := ?CC) (dx := ?dd) (fs := ?ff) ?tt ?hh ?_); (case tt => assumption); (case hh => walk_at "hp"))
  ))

local macro_rules | `(tactic| walk_at "s") => `(tactic| (with_reducible refine r_iR3 ?_))
theorem ok_l_ring_row {f : Addr} {fd : FuncData} (F : Fun K "_law_ring_row" "_law_ring_row" s_l_ring_row f fd) (B : Bl mg) (h_l_totient : Has P w K mg base "_law_totient" 2 ["_law_cycle"] spPhi) (h_l_primes : Has P w K mg base "_law_primes" 1 ["_law_cycle"] spPrimes) : FnOk P w K mg base CX0 3 f fd ["_law_cycle"] spRingRow := by
  refine F.ok sc_l_ring_row (fun vs H Q E h => ?_) (fun cdv A outer s H vs Q E hr h => ?_)
  · obtain ⟨n, rfl, _⟩ := h
    rfl
  · obtain ⟨n, rfl, n1, n2, k⟩ := h
    refine ⟨_, (pss_cons (ps_if (pt_cmpR op_eq (pv 0) pe_int (nomark _))
    (pss_one (ps_ret (pe_lst (pa_cons (pe_un un_neg pe_int) (pa_cons pe_int pa_nil)))))
    pss_nil)
    (pss_cons (ps_set (i := 1) sc_l_ring_row.nd rfl (.inl rfl) (pe_op op_cat (pe_lst (pa_cons pe_int pa_nil)) (pe_op op_rep (pe_lst (pa_cons pe_int pa_nil)) (pe_callH h_l_totient (hr.mono (by first | decide | omega)) (pa_cons (pv 0) pa_nil)))))
    (pss_cons (ps_set (i := 2) sc_l_ring_row.nd rfl (.inl rfl) (pe_lst (pa_cons (pe_tup (pa_cons (pv 0) (pa_cons pe_int pa_nil))) pa_nil)))
    (pss_cutM (ps_for PassesOwn.never rfl (pi_list (pe_callH h_l_primes (hr.mono (by first | decide | omega)) (pa_cons (pv 0) pa_nil))) (pg_name (i := 3) sc_l_ring_row.nd rfl (.inr rfl))
    (pss_one (ps_set (i := 2) sc_l_ring_row.nd rfl (.inl rfl) (pe_op op_cat (pv 2) (pe_lc (g := (gTup K 2 (gCons (gName 4) (gCons (gName 5) gNil)))) (own := [("_law_wide", 4), ("_law_sign", 5)]) rfl sc_l_ring_row.nd (pi_list (pv 2)) (blkOk_by (N := ["_law_cycle", "_law_row", "_law_signs", "_law_one", "_law_wide", "_law_sign", "_law_at"]) (sc := defScope s_l_ring_row) (by decide +kernel)) (fun _ _ _ _ _ => (pg_tupK (K := K) rfl (pgs_cons (pg_name (i := 4) sc_l_ring_row.nd rfl (.inl rfl)) (pgs_cons (pg_name (i := 5) sc_l_ring_row.nd rfl (.inl rfl)) pgs_nil)))) (fun _ _ _ _ _ => pts_nil) (fun _ _ _ _ _ => (pe_tup (pa_cons (pe_op op_fdivW (pv 4) (pv 3)) (pa_cons (pe_un un_neg (pv 5)) pa_nil)))))))))
    (pss_cons (ps_for PassesOwn.never rfl (pi_list (pv 2)) (pg_tup (by rfl) (pgs_cons (pg_name (i := 4) sc_l_ring_row.nd rfl (.inl rfl)) (pgs_cons (pg_name (i := 5) sc_l_ring_row.nd rfl (.inl rfl)) pgs_nil)))
    (pss_one (ps_if (pt_cmpR op_eq (pv 5) pe_int (nomark _))
    (pss_one (ps_for PassesOwn.never rfl (pi_range3 (by rfl) B.b_range (pa_cons (pe_op op_sub (pe_callB (call_lenK (K := K)) (by rfl) B.b_len PySem.boot_len (pa_cons (pv 1) pa_nil)) pe_int) (pa_cons (pe_op op_sub (pv 4) pe_int) (pa_cons (pe_un un_neg pe_int) pa_nil)))) (pg_name (i := 6) sc_l_ring_row.nd rfl (.inl rfl))
    (pss_one (ps_asg (pe_op op_sub (pe_ix (ix_listK (K := K)) (pv 1) (pv 6) (fun _ _ => rfl)) (pe_ix (ix_listK (K := K)) (pv 1) (pe_op op_sub (pv 6) (pv 4)) (fun _ _ => rfl))) (pg_sub (pv 1) (pv 6) set_list)))))
    (pss_one (ps_for PassesOwn.never rfl (pi_range2 (by rfl) B.b_range (pa_cons (pv 4) (pa_cons (pe_callB (call_lenK (K := K)) (by rfl) B.b_len PySem.boot_len (pa_cons (pv 1) pa_nil)) pa_nil))) (pg_name (i := 6) sc_l_ring_row.nd rfl (.inl rfl))
    (pss_one (ps_asg (pe_op op_add (pe_ix (ix_listK (K := K)) (pv 1) (pv 6) (fun _ _ => rfl)) (pe_ix (ix_listK (K := K)) (pv 1) (pe_op op_sub (pv 6) (pv 4)) (fun _ _ => rfl))) (pg_sub (pv 1) (pv 6) set_list))))))))
    (pss_one (ps_ret (pv 1)))))))), ?_⟩
    walk_at "go"
    refine r_iteD (fun h1 => ?_) (fun h1 => ?_)
    · have e1 : n = 1 := by omega
      subst e1
      walk_at "go"
      intro l nl
      walk_at "go"
      exact k l _ nl (Same.new0 nl) upd_same
    have hn1 : n ≠ 1 := by omega
    have pm := phi_le' n
    walk_at "go"
    intro l1 nl1
    walk_at "go"
    intro l2 nl2
    walk_at "go"
    refine ⟨n, rfl, n1, by omega, fun H1 s1 => ?_⟩
    have hl2 := s1 _ _ (upd_same (H := upd H l1 (.lst [.int 1])) (a := l2) (o := .lst [.int 0]))
    have hl1 := s1 _ _ (h_keep (upd_same (H := H) (a := l1) (o := .lst [.int 1])) nl2)
    have sA : Same H H1 := (Same.new (Same.new0 nl1) nl2).trans s1
    refine r_rep hl2 (by omega) (by omega) (by simp; omega) fun l3 nl3 => ?_
    refine r_cat (h_keep hl1 nl3) upd_same (by simp; omega) fun l4 nl4 => ?_
    have er : [V.int 1] ++ (List.replicate ((M11.phi n : Nat) : Int).toNat [V.int 0]).flatten = (row0 n).map V.int := by
      unfold row0
      rw [List.map_cons, List.map_replicate, List.flatten_replicate_singleton]
      rfl
    rw [er]
    have hl4 : (upd (upd H1 l3 (.lst (List.replicate ((M11.phi n : Nat) : Int).toNat [V.int 0]).flatten)) l4 (.lst ((row0 n).map V.int))) l4 = some (.lst ((row0 n).map V.int)) := upd_same
    have s2 : Same H1 (upd (upd H1 l3 (.lst (List.replicate ((M11.phi n : Nat) : Int).toNat [V.int 0]).flatten)) l4 (.lst ((row0 n).map V.int))) := Same.new (Same.new0 nl3) nl4
    have nl4H : H l4 = none := free_same (sA.trans (Same.new0 nl3)) nl4
    generalize upd (upd H1 l3 (.lst (List.replicate ((M11.phi n : Nat) : Int).toNat [V.int 0]).flatten)) l4 (.lst ((row0 n).map V.int)) = H2 at *
    have sB := sA.trans s2
    clear s1 s2 sA hl1 hl2 nl1 nl2 nl3 nl4
    walk_at "go"
    intro t nt
    walk_at "go"
    intro sl nsl
    have hl43 := h_keep (p := sl) (o := .lst [V.ref t]) (h_keep (p := t) (o := .tup [.int n, .int 1]) hl4 nt) nsl
    have hs3 : TermsAt (upd (upd H2 t (.tup [.int n, .int 1])) sl (.lst [.ref t])) sl (sgT (signsTo n 0)) := ⟨_, upd_same, .one (h_keep upd_same nsl)⟩
    have s3 : Same H2 (upd (upd H2 t (.tup [.int n, .int 1])) sl (.lst [.ref t])) := Same.new (Same.new0 nt) nsl
    generalize upd (upd H2 t (.tup [.int n, .int 1])) sl (.lst [.ref t]) = H3 at *
    have sC := sB.trans s3
    clear s3 sB nt nsl hl4
    walk_at "go"
    refine r_cut (fun σ' H' => ∃ (sl : Addr) (y3 y4 y5 y6 : Option V), σ' = [some (.int n), some (.ref l4), some (.ref sl), y3, y4, y5, y6] ∧ Same H H' ∧ H' l4 = some (.lst ((row0 n).map V.int)) ∧ TermsAt H' sl (sgT (signsL n)) ∧ sl ≠ l4) ?_ ?_
    · walk_at "go"
      refine ⟨n, rfl, n1, by omega, fun p H4 np s4 hp => ?_⟩
      have pl := primes_len n1 n2
      refine u_forL (SqL.of hp) (fun i σ H' => ∃ (sl : Addr) (y3 y4 y5 y6 : Option V), σ = [some (.int n), some (.ref l4), some (.ref sl), y3, y4, y5, y6] ∧ Same H4 H' ∧ TermsAt H' sl (sgT (signsTo n i)) ∧ sl ≠ l4) ?_ ?_ ?_ ?_
      · refine ⟨sl, _, _, _, _, rfl, Same.refl _, hs3.same s4, ?_⟩
        rintro rfl
        obtain ⟨vs, e, t⟩ := hs3
        rw [hl43] at e
        cases e
        obtain ⟨b, p, us, _, e, _⟩ := t
        cases e
      · rintro i σ H' _ ⟨sl, y3, y4, y5, y6, rfl, sm, _⟩
        exact SqL.of (sm _ _ hp)
      · rintro i x σ H' hx ⟨sl, y3, y4, y5, y6, rfl, sm, ⟨vs, hsl, hst⟩, slne⟩
        obtain ⟨q, hq, rfl⟩ := vints_get hx
        obtain ⟨q2, qn⟩ := M11.primes_mem (List.mem_of_getElem? hq)
        have hi := (List.getElem?_eq_some_iff.mp hq).1
        have sln := signsTo_len n i (by omega)
        have i4 : 2 ^ i ≤ 2 ^ 4 := Nat.pow_le_pow_right (by decide) (by omega)
        have hvl := hst.length
        have hsl' : (sgT (signsTo n i)).length = 2 ^ i := by unfold sgT; rw [List.length_map, sln]
        walk_at "go"
        refine u_lcL (.of hsl) (fun D j acc H5 => (TermsL H5 acc (sgT (((signsTo n i).take j).map fun r => (r.1 / q, !r.2))) ∧ j ≤ vs.length) ∧ Same H' H5) ?_ ?_ ?_ ?_
        · exact fun D hD => ⟨⟨rfl, Nat.zero_le _⟩, Same.new0 hD⟩
        · exact fun D j acc H5 _ _ ⟨_, s⟩ => .of (s _ _ hsl)
        · rintro D j x acc H5 hD hx hacc ⟨⟨ht2, hj0⟩, s5⟩
          obtain ⟨b, p', rfl, hp', hb⟩ := hst.at j hx
          have hj2 := (List.getElem?_eq_some_iff.mp hx).1
          have hb2 := s5 _ _ hb
          unfold sgT at hp'
          rw [List.getElem?_map] at hp'
          obtain ⟨r, hr', rfl⟩ := Option.map_eq_some_iff.mp hp'
          have et : (signsTo n i).take (j + 1) = (signsTo n i).take j ++ [r] := by rw [List.take_succ, hr']; rfl
          have al : acc.length ≤ j := by
            rw [ht2.length, sgT, List.length_map, List.length_map, List.length_take]; omega
          walk_at "go"
          refine ⟨rfl, ?_⟩
          walk_at "go"
          refine r_rI ⟨by omega, log_small (Nat.lt_of_le_of_lt (by omega : (q : Int).natAbs ≤ 210) (by decide +kernel))⟩ ?_
          rw [fdiv_nat]
          walk_at "go"
          intro t nt
          refine u_push (h_keep hacc nt) (by omega) ⟨⟨?_, hj2⟩, Same.put (Same.new s5 nt) hD⟩
          have t1 : Tk H5 (upd (upd H5 t (.tup [.int ((r.1 / q : Nat) : Int), .int (-(if r.2 then 1 else -1))])) D (.lst (acc ++ [.ref t]))) := ((Tk.refl _).new nt).lst (h_keep hacc nt)
          rw [et, List.map_append, sgT, List.map_append]
          refine (ht2.tk t1).app (.one ((upd_ne (ne_of_none hacc nt).symm).trans ?_))
          rw [upd_same]
          show some (HO.tup [V.int ((r.1 / q : Nat) : Int), V.int (-(if r.2 = true then 1 else -1))]) = some (HO.tup [V.int ((r.1 / q : Nat) : Int), V.int (if (!r.2) = true then 1 else -1)])
          cases r.2 <;> rfl
        · rintro D acc H5 hD hacc ⟨⟨ht2, hj0⟩, s5⟩
          rw [List.take_of_length_le (by omega)] at ht2
          have accl := ht2.length
          rw [sgT, List.length_map, List.length_map] at accl
          walk_at "go"
          intro l5 nl5
          walk_at "go"
          have s6 : Same H' (upd H5 l5 (.lst (vs ++ acc))) := s5.trans (Same.new0 nl5)
          refine ⟨l5, _, _, _, _, rfl, sm.trans s6, ⟨_, upd_same, ?_⟩, ?_⟩
          · rw [signsTo_succ hq, sgT, List.map_append]
            exact (hst.tk (Tk.same s6)).app (ht2.tk (Tk.same (Same.new0 nl5)))
          · exact ne_of_none' nl5 (s5 _ _ (sm _ _ (s4 _ _ hl43)))
      · rintro σ H' ⟨sl, y3, y4, y5, y6, rfl, sm, hst, slne⟩
        rw [vints_len, signsTo_all] at hst
        exact ⟨sl, _, _, _, _, rfl, sC.trans (s4.trans sm), sm _ _ (s4 _ _ hl43), hst, slne⟩
    clear hs3 hl43 sC
    rintro σ' H4 ⟨sl, y3, y4, y5, y6, rfl, s4, hl4, ⟨vs, hsl, hst⟩, slne⟩
    have hok := okN_at n1 n2
    unfold okN at hok
    simp only [Bool.and_eq_true] at hok
    have hrun := hok.1.1.1
    have hvl := hst.length
    walk_at "go"
    refine u_forL (.of hsl) (fun i σ H' => ∃ (row : List Int) (y4 y5 y6 : Option V), σ = [some (.int n), some (.ref l4), some (.ref sl), y3, y4, y5, y6] ∧ But l4 H4 H' ∧ H' l4 = some (.lst (row.map V.int)) ∧ row.length = M11.phi n + 1 ∧ okRun ((signsL n).drop i) row = true ∧ runR ((signsL n).drop i) row = ringL n) ?_ ?_ ?_ ?_
    · refine ⟨row0 n, _, _, _, rfl, But.refl _ _, hl4, ?_, hrun, ?_⟩
      · unfold row0; rw [List.length_cons, List.length_replicate]
      · unfold ringL; rw [if_neg hn1]; rfl
    · rintro i σ H' _ ⟨row, y4, y5, y6, rfl, bu, _⟩
      exact .of (bu _ _ slne hsl)
    · rintro i x σ H' hx ⟨row, y4, y5, y6, rfl, bu, hrow, rl, hk, hrr⟩
      obtain ⟨b, p', rfl, hp', hb⟩ := hst.at i hx
      have hi := (List.getElem?_eq_some_iff.mp hx).1
      unfold sgT at hp'
      rw [List.getElem?_map] at hp'
      obtain ⟨r, hr', rfl⟩ := Option.map_eq_some_iff.mp hp'
      have hlt := (List.getElem?_eq_some_iff.mp hr').1
      have hd : (signsL n).drop i = r :: (signsL n).drop (i + 1) := by rw [List.drop_eq_getElem_cons hlt, (List.getElem?_eq_some_iff.mp hr').2]
      rw [hd] at hk hrr
      unfold okRun at hk
      simp only [Bool.and_eq_true, decide_eq_true_eq] at hk
      obtain ⟨⟨r1, hz⟩, hk2⟩ := hk
      have hbl : b ≠ l4 := by rintro rfl; rw [hl4] at hb; cases hb
      have hb2 := bu _ _ hbl hb
      have rn : r.1 ≤ n := by
        have := signs_small n (M11.primes n).length r (by rw [signsTo_all]; exact List.mem_of_getElem? hr')
        exact this
      obtain ⟨wd, sg⟩ := r
      simp only at *
      walk_at "go"
      cases sg with
      | true =>
        walk_at "go"
        have hcnt : ((((row.map V.int).length : Nat) : Int) - 1 - ((wd : Int) - 1)).toNat = row.length - wd := by rw [List.length_map]; omega
        refine u_forD (by rw [List.length_map]; omega) (fun j σ H5 => ∃ (cur : List Int) (y6 : Option V), σ = [some (.int n), some (.ref l4), some (.ref sl), y3, some (.int wd), some (.int 1), y6] ∧ But l4 H4 H5 ∧ H5 l4 = some (.lst (cur.map V.int)) ∧ DownR wd j row cur) ?_ ?_ ?_
        · exact ⟨row, _, rfl, bu, hrow, .start _ _⟩
        · rintro j σ H5 hj ⟨cur, y6, rfl, bu5, hcur, dr⟩
          rw [hcnt] at hj
          have dl := dr.1
          rw [List.length_map]
          have a1 := getD_atI (l := cur) (r := ((row.length : Nat) : Int) - 1 - j) (by omega) (by omega)
          have a2 := getD_atI (l := cur) (r := ((row.length : Nat) : Int) - 1 - j - wd) (by omega) (by omega)
          rw [show (((row.length : Nat) : Int) - 1 - j).toNat = row.length - 1 - j by omega] at a1
          rw [show (((row.length : Nat) : Int) - 1 - j - wd).toNat = row.length - 1 - j - wd by omega] at a2
          walk_at "go"
          refine r_ixL (.of hcur) a1 ?_
          walk_at "go"
          refine r_ixL (.of hcur) a2 ?_
          walk_at "go"
          refine r_setL (xs := cur.map V.int) (m := row.length - 1 - j) hcur (by unfold ixN; rw [if_pos (by omega), List.length_map, if_pos (by omega), show (((row.length : Nat) : Int) - 1 - j).toNat = row.length - 1 - j by omega]) ?_
          rw [← List.map_set]
          exact ⟨_, _, rfl, bu5.self, upd_same, dr.step r1 (by omega)⟩
        · rintro σ H5 ⟨cur, y6, rfl, bu5, hcur, dr⟩
          rw [hcnt] at dr
          have e := dr.done
          subst e
          exact ⟨_, _, _, _, rfl, bu5, hcur, by rw [mulS_length]; exact rl, hk2, hrr⟩
      | false =>
        refine r_iteD (fun hh => absurd hh (fun z => by simp at z)) (fun _ => ?_)
        walk_at "go"
        simp only [Bool.false_or, Bool.and_eq_true, beq_iff_eq] at hz
        have hcnt : ((((row.map V.int).length : Nat) : Int) - (wd : Int)).toNat = row.length - wd := by rw [List.length_map]; omega
        refine u_for2 ?_ (fun j σ H5 => ∃ (cur : List Int) (y6 : Option V), σ = [some (.int n), some (.ref l4), some (.ref sl), y3, some (.int wd), some (.int (-1)), y6] ∧ But l4 H4 H5 ∧ H5 l4 = some (.lst (cur.map V.int)) ∧ UpR wd j row cur) ?_ ?_ ?_
        · rw [List.length_map]; omega
        · exact ⟨row, _, rfl, bu, hrow, .start _ _⟩
        · rintro j σ H5 hj ⟨cur, y6, rfl, bu5, hcur, dr⟩
          rw [List.length_map] at hj
          have dl := dr.1
          have a1 := getD_atI (l := cur) (r := (wd : Int) + j) (by omega) (by omega)
          have a2 := getD_atI (l := cur) (r := (wd : Int) + j - wd) (by omega) (by omega)
          rw [show ((wd : Int) + j).toNat = wd + j by omega] at a1
          rw [show ((wd : Int) + j - wd).toNat = wd + j - wd by omega] at a2
          walk_at "go"
          refine r_ixL (.of hcur) a1 ?_
          walk_at "go"
          refine r_ixL (.of hcur) a2 ?_
          walk_at "go"
          refine r_setL (xs := cur.map V.int) (m := wd + j) hcur (by unfold ixN; rw [if_pos (by omega), List.length_map, if_pos (by omega), show ((wd : Int) + j).toNat = wd + j by omega]) ?_
          rw [← List.map_set]
          exact ⟨_, _, rfl, bu5.self, upd_same, dr.step r1 (by omega)⟩
        · rintro σ H5 ⟨cur, y6, rfl, bu5, hcur, dr⟩
          rw [hcnt] at dr
          have e := dr.done r1 hz.1 hz.2
          subst e
          exact ⟨_, _, _, _, rfl, bu5, hcur, by rw [hz.2]; exact rl, hk2, hrr⟩
    · rintro σ H' ⟨row, y4, y5, y6, rfl, bu, hrow, rl, hk, hrr⟩
      have e : row = ringL n := by
        have hl : (signsL n).length = vs.length := by rw [hvl, sgT, List.length_map]
        rw [List.drop_of_length_le (by omega)] at hrr
        exact hrr
      subst e
      walk_at "go"
      exact k l4 H' nl4H (Same.but2 s4 nl4H bu) hrow
theorem ok_l_jar_row {f : Addr} {fd : FuncData} (F : Fun K "_law_jar_row" "_law_jar_row" s_l_jar_row f fd) (B : Bl mg) (h_l_jar_of : Has P w K mg base "_law_jar_of" 1 ["_law_rows"] spJarOf) : FnOk P w K mg base CX0 2 f fd ["_law_row"] spJarRow := by
  refine F.ok sc_l_jar_row (fun vs H Q E h => ?_) (fun cdv A outer s H vs Q E hr h => ?_)
  · obtain ⟨l, r, rfl, _⟩ := h
    rfl
  · obtain ⟨l, r, rfl, hl, rn, k⟩ := h
    refine ⟨_, (pss_one (ps_ret (pe_callH h_l_jar_of (hr.mono (by first | decide | omega)) (pa_cons (pe_lc (own := [("_law_at", 1)]) rfl sc_l_jar_row.nd (pi_range1 (by rfl) B.b_range (pa_cons (pe_callB (call_lenK (K := K)) (by rfl) B.b_len PySem.boot_len (pa_cons (pv 0) pa_nil)) pa_nil)) (blkOk_by (N := ["_law_row", "_law_at"]) (sc := defScope s_l_jar_row) (by decide +kernel)) (fun _ _ _ _ _ => (pg_name (i := 1) sc_l_jar_row.nd rfl (.inl rfl))) (fun _ _ _ _ _ => pts_nil) (fun _ _ _ _ _ => (pe_tup (pa_cons (pv 1) (pa_cons (pe_ix (ix_listK (K := K)) (pv 0) (pv 1) (fun _ _ => rfl)) pa_nil))))) pa_nil)))), ?_⟩
    walk_at "go"
    rw [List.length_map]
    refine u_lc1 ⟨by omega, by omega⟩ (fun D i acc H' => (TermsL H' acc ((termsL r).take i) ∧ i ≤ r.length) ∧ Same H H') ?_ ?_ ?_
    · exact fun D hD => ⟨⟨rfl, Nat.zero_le _⟩, Same.new0 hD⟩
    · rintro D i acc H' hD hi hacc ⟨⟨ht, hi0⟩, s1⟩
      have a1 := getD_atI (l := r) (r := (i : Int)) (by omega) (by omega)
      rw [Int.toNat_natCast] at a1
      have hl2 := s1 _ _ hl
      walk_at "go"
      refine ⟨rfl, ?_⟩
      walk_at "go"
      refine r_ixL (.of hl2) a1 ?_
      walk_at "go"
      intro t nt
      have et : (termsL r).take (i + 1) = (termsL r).take i ++ [((i : Int), r.getD i 0)] := by
        have : (termsL r)[i]? = some ((i : Int), r.getD i 0) := by
          unfold termsL
          rw [List.getElem?_map, List.getElem?_range (by omega)]
          rfl
        rw [List.take_succ, this]; rfl
      refine u_push (h_keep hacc nt) (by rw [ht.length, List.length_take]; omega) ⟨⟨?_, by omega⟩, Same.put (Same.new s1 nt) hD⟩
      have t1 : Tk H' (upd (upd H' t (.tup [.int (i : Int), .int (r.getD i 0)])) D (.lst (acc ++ [.ref t]))) := ((Tk.refl _).new nt).lst (h_keep hacc nt)
      rw [et]
      exact (ht.tk t1).app (.one ((upd_ne (ne_of_none hacc nt).symm).trans upd_same))
    · rintro D acc H' hD hacc ⟨⟨ht, hi0⟩, s1⟩
      rw [Int.toNat_natCast, List.take_of_length_le (by rw [termsL_length]; exact Nat.le_refl _)] at ht
      walk_at "go"
      refine ⟨D, termsL r, rfl, ⟨acc, hacc, ht⟩, by rw [termsL_length]; omega, fun d H2 nd s2 hj => ?_⟩
      rw [termsL_length] at hj
      exact k d H2 (free_same s1 nd) (s1.trans s2) (hj.ext fun j => cof_termsL r j)
theorem ok_l_ring_jar {f : Addr} {fd : FuncData} (F : Fun K "_law_ring_jar" "_law_ring_jar" s_l_ring_jar f fd) (h_l_ring_row : Has P w K mg base "_law_ring_row" 3 ["_law_cycle"] spRingRow) (h_l_jar_row : Has P w K mg base "_law_jar_row" 2 ["_law_row"] spJarRow) : FnOk P w K mg base CX0 4 f fd ["_law_cycle"] spRingJar := by
  refine F.ok sc_l_ring_jar (fun vs H Q E h => ?_) (fun cdv A outer s H vs Q E hr h => ?_)
  · obtain ⟨n, rfl, _⟩ := h
    rfl
  · obtain ⟨n, rfl, n1, n2, k⟩ := h
    have R := ringF n1 n2
    have pm := phi_le' n
    refine ⟨_, (pss_one (ps_ret (pe_callH h_l_jar_row (hr.mono (by first | decide | omega)) (pa_cons (pe_callH h_l_ring_row (hr.mono (by first | decide | omega)) (pa_cons (pv 0) pa_nil)) pa_nil)))), ?_⟩
    walk_at "go"
    refine ⟨n, rfl, n1, n2, fun l H1 nl s1 hl => ?_⟩
    walk_at "go"
    refine ⟨l, ringL n, rfl, hl, by rw [R.len]; omega, fun d H2 nd s2 hj => ?_⟩
    rw [R.len] at hj
    exact k d H2 (free_same s1 nd) (s1.trans s2) hj
end

set_option Elab.async false
set_option linter.all false
set_option maxRecDepth 100000
set_option maxHeartbeats 8000000
set_option pp.deepTerms false
set_option pp.deepTerms.threshold 12
set_option pp.maxSteps 1200

open PySem PySem.Spec PyProof.Rows L2
section
variable {P : Program} {w : World} {K : PySem.W.Frag} {mg : Str → Option Value} {base : Heap} {C : Addr}

local macro_rules | `(tactic| walk_at "s") => `(tactic| (first
  | (with_reducible refine r_dnew ?_)
  | (with_reducible refine r_dget2 ?_)
  | (with_reducible refine r_dget ?_)
  | (with_reducible refine r_dput ?_)
  | (with_reducible refine r_dsetd ?_)
  | ((with_reducible refine JarAt.isD (n := ?nn) (c := ?cc) ?hh ?_); (case hh => assumption))
  ))

local macro_rules | `(tactic| walk_at "s") => `(tactic| (first
  | (with_reducible refine r_prop ?_)
  | (with_reducible refine r_meth ?_)
  | (with_reducible refine r_make ?_)
  | (with_reducible refine r_fld ?_)
  | (with_reducible refine r_sfld ?_)
  | (with_reducible refine r_iOwn ?_)
  | ((with_reducible refine u_rowsAt (mg := ?mm) (C := ?CC) (dx := ?dd) (fv := ?vv) ?tt ?hh ?_); (case tt => assumption); (case hh => walk_at "hp"))
  | ((with_reducible refine r_isPoly (mg := ?mm) (dx := ?dd) (fs := ?ff) ?tt ?hh ?_); (case tt => assumption); (case hh => walk_at "hp"))
  | ((with_reducible refine r_isPolyI (mg := ?mm) ?tt ?_); (case tt => assumption))
  | ((with_reducible refine r_polyInt (mg := ?mm) (C := ?CC) (dx := ?dd) (fs := ?ff) ?tt ?hh ?_); (case tt => assumption); (case hh => walk_at "hp"))
  ))

local macro_rules | `(tactic| walk_at "s") => `(tactic| (first
  | (with_reducible refine r_iItems ?_)
  | (with_reducible refine r_dc ?_)
  ))
local macro_rules | `(tactic| walk_at "s") => `(tactic| ((with_reducible refine JarIn.isD (lo := ?ll) (hi := ?uu) (c := ?cc) ?hh ?_); (case hh => assumption)))
end

set_option Elab.async false
set_option linter.all false
set_option maxRecDepth 100000
set_option maxHeartbeats 8000000
set_option pp.deepTerms false
set_option pp.deepTerms.threshold 12
set_option pp.maxSteps 1200

open PySem PySem.Spec PyProof.Rows L2
section
variable {P : Program} {w : World} {K : PySem.W.Frag} {mg : Str → Option Value} {base : Heap} {C : Addr}

local macro_rules | `(tactic| walk_at "s") => `(tactic| (first
  | (with_reducible refine r_dnew ?_)
  | (with_reducible refine r_dget2 ?_)
  | (with_reducible refine r_dget ?_)
  | (with_reducible refine r_dput ?_)
  | (with_reducible refine r_dsetd ?_)
  | ((with_reducible refine JarAt.isD (n := ?nn) (c := ?cc) ?hh ?_); (case hh => assumption))
  ))

local macro_rules | `(tactic| walk_at "s") => `(tactic| (first
  | (with_reducible refine r_prop ?_)
  | (with_reducible refine r_meth ?_)
  | (with_reducible refine r_make ?_)
  | (with_reducible refine r_fld ?_)
  | (with_reducible refine r_sfld ?_)
  | (with_reducible refine r_iOwn ?_)
  | ((with_reducible refine u_rowsAt (mg := ?mm) (C := ?CC) (dx := ?dd) (fv := ?vv) ?tt ?hh ?_); (case tt => assumption); (case hh => walk_at "hp"))
  | ((with_reducible refine r_isPoly (mg := ?mm) (dx := ?dd) (fs := ?ff) ?tt ?hh ?_); (case tt => assumption); (case hh => walk_at "hp"))
  | ((with_reducible refine r_isPolyI (mg := ?mm) ?tt ?_); (case tt => assumption))
  | ((with_reducible refine r_polyInt (mg := ?mm) (C := ?CC) (dx := ?dd) (fs := ?ff) ?tt ?hh ?_); (case tt => assumption); (case hh => walk_at "hp"))
  ))

local macro_rules | `(tactic| walk_at "s") => `(tactic| (first
  | (with_reducible refine r_iKeys ?_)
  | (with_reducible refine r_iR3 ?_)
  ))
end

set_option Elab.async false
set_option linter.all false
set_option maxRecDepth 100000
set_option maxHeartbeats 8000000
set_option pp.deepTerms false
set_option pp.deepTerms.threshold 12
set_option pp.maxSteps 1200

open PySem PySem.Spec PyProof.Rows L2
section
variable {P : Program} {w : World} {K : PySem.W.Frag} {mg : Str → Option Value} {base : Heap} {C : Addr}

local macro_rules | `(tactic| walk_at "s") => `(tactic| (first
  | (with_reducible refine r_dnew ?_)
  | (with_reducible refine r_dget2 ?_)
  | (with_reducible refine r_dget ?_)
  | (with_reducible refine r_dput ?_)
  | (with_reducible refine r_dsetd ?_)
  | ((with_reducible refine JarAt.isD (n := ?nn) (c := ?cc) ?hh ?_); (case hh => assumption))
  ))

local macro_rules | `(tactic| walk_at "s") => `(tactic| (first
  | (with_reducible refine r_prop ?_)
  | (with_reducible refine r_meth ?_)
  | (with_reducible refine r_make ?_)
  | (with_reducible refine r_fld ?_)
  | (with_reducible refine r_sfld ?_)
  | (with_reducible refine r_iOwn ?_)
  | ((with_reducible refine u_rowsAt (mg := ?mm) (C := ?CC) (dx := ?dd) (fv := ?vv) ?tt ?hh ?_); (case tt => assumption); (case hh => walk_at "hp"))
  | ((with_reducible refine r_isPoly (mg := ?mm) (dx := ?dd) (fs := ?ff) ?tt ?hh ?_); (case tt => assumption); (case hh => walk_at "hp"))
  | ((with_reducible refine r_isPolyI (mg := ?mm) ?tt ?_); (case tt => assumption))
  | ((with_reducible refine r_polyInt (mg := ?mm) (C := ?CC) (dx := ?dd) (fs := ?ff) ?tt ?hh ?_); (case tt => assumption); (case hh => walk_at "hp"))
  ))

local macro_rules | `(tactic| walk_at "s") => `(tactic| (with_reducible refine r_iR3 ?_))
end

set_option Elab.async false
set_option linter.all false
set_option maxRecDepth 100000
set_option maxHeartbeats 4000000

open PySem PySem.Spec PyProof.Rows L2
section
variable {K : PySem.W.Frag} {H H' : Hp} {b l p : Addr} {o : HO}
theorem off_same (s : Same H H') : But b (delH H l) (delH H' l) := fun x u _ e => by
  by_cases hx : x = l
  · subst hx; rw [delH_same] at e; cases e
  · rw [delH_ne hx] at e ⊢; exact s x u e
theorem off_upd : delH (upd H l o) l = delH H l := by
  funext x
  by_cases hx : x = l
  · subst hx; rw [delH_same, delH_same]
  · rw [delH_ne hx, delH_ne hx, upd_ne hx]
theorem off_sub : But b (delH H l) H := fun x u _ e => by
  by_cases hx : x = l
  · subst hx; rw [delH_same] at e; cases e
  · rw [delH_ne hx] at e; exact e
theorem off_at (h : H p = some o) (n : p ≠ l) : delH H l p = some o := by rw [delH_ne n]; exact h
theorem bag_off (h : Bag H b) (n : b ≠ l) : Bag (delH H l) b := let ⟨x, y, z, e, r⟩ := h; ⟨x, y, z, off_at e n, r⟩
theorem off_new (n : H l = none) : But b H (delH (upd H l o) l) := by rw [delH_new n]; exact But.refl _ _
end
/-- a value that is no Poly, whatever the bag holds -/
def NPB (K : PySem.W.Frag) (C : Addr) (H : Hp) (b : Addr) (v : V) : Prop := ∀ H', But b H H' → ∃ t, TyE K H' v t ∧ PySem.W.kitOne K t (.ref C) = some false
section
variable {K : PySem.W.Frag} {mg : Str → Option Value} {C : Addr} {H H' : Hp} {b p : Addr} {xs : List V} {v : V}
theorem NPB.but (h : NPB K C H b v) (s : But b H H') : NPB K C H' b v := fun H2 s2 => h H2 (s.trans s2)
theorem NPB.now (h : NPB K C H b v) : ∃ t, TyE K H v t ∧ PySem.W.kitOne K t (.ref C) = some false := h H (But.refl _ _)
theorem np_non (T : PolyT K mg C) : NPB K C H b .non := fun _ _ => ⟨_, .x (.base .non), kit_no T.cs T.ty T.sNone rfl⟩
theorem np_bl (T : PolyT K mg C) (c : Bool) : NPB K C H b (.bl c) := fun _ _ => ⟨_, .x ty_bl, kit_no T.cs T.ty T.sBool rfl⟩
theorem np_int (T : PolyT K mg C) (c : Int) : NPB K C H b (.int c) := fun _ _ => ⟨_, .x ty_int, kit_no T.cs T.ty T.sInt rfl⟩
theorem np_str (T : PolyT K mg C) (c : Str) : NPB K C H b (.str c) := fun _ _ => ⟨_, .x ty_str, kit_no T.cs T.ty T.sStr rfl⟩
theorem np_tup (T : PolyT K mg C) (hb : Bag H b) (h : H p = some (.tup xs)) : NPB K C H b (.ref p) := fun _ s => ⟨_, .x (ty_tup (s _ _ (nb_tup hb h) h)), kit_no T.cs T.ty T.sTup rfl⟩
theorem np_lst (T : PolyT K mg C) (hb : Bag H b) (h : H p = some (.lst xs)) (n : p ≠ b) : NPB K C H b (.ref p) := fun _ s => ⟨_, .x (ty_lst (s _ _ n h)), kit_no T.cs T.ty T.sList rfl⟩
theorem np_one {x : V} (T : PolyT K mg C) (hb : Bag H b) (h : H p = some (.lst [x])) : NPB K C H b (.ref p) := np_lst T hb h (nb_lst hb h (by simp))
theorem np_exc {D : Addr} (T : PolyT K mg C) (hb : Bag H b) (h : H p = some (ExO (.ref D) p)) (F : ExcTy K D) (s1 : PySem.W.subIn K (.ref D) (.ref C) = some false) (s2 : (Value.ref D == Value.ref C) = false) : NPB K C H b (.ref p) := fun _ s => ⟨_, .exc (s _ _ (nb_exo hb h) h) F, kit_no T.cs T.ty s1 s2⟩
end
section
variable {P : Program} {w : World} {K : PySem.W.Frag} {mg : Str → Option Value} {base : Heap} {C A_InvalidPoly : Addr}

local macro_rules | `(tactic| walk_at "s") => `(tactic| (first
  | (with_reducible refine r_dnew ?_)
  | (with_reducible refine r_dget2 ?_)
  | (with_reducible refine r_dget ?_)
  | (with_reducible refine r_dput ?_)
  | (with_reducible refine r_dsetd ?_)
  | ((with_reducible refine JarAt.isD (n := ?nn) (c := ?cc) ?hh ?_); (case hh => assumption))
  ))

local macro_rules | `(tactic| walk_at "s") => `(tactic| (first
  | (with_reducible refine r_prop ?_)
  | (with_reducible refine r_meth ?_)
  | (with_reducible refine r_make ?_)
  | (with_reducible refine r_fld ?_)
  | (with_reducible refine r_sfld ?_)
  | (with_reducible refine r_iOwn ?_)
  | ((with_reducible refine u_rowsAt (mg := ?mm) (C := ?CC) (dx := ?dd) (fv := ?vv) ?tt ?hh ?_); (case tt => assumption); (case hh => walk_at "hp"))
  | ((with_reducible refine r_isPoly (mg := ?mm) (dx := ?dd) (fs := ?ff) ?tt ?hh ?_); (case tt => assumption); (case hh => walk_at "hp"))
  | ((with_reducible refine r_isPolyI (mg := ?mm) ?tt ?_); (case tt => assumption))
  | ((with_reducible refine r_polyInt (mg := ?mm) (C := ?CC) (dx := ?dd) (fs := ?ff) ?tt ?hh ?_); (case tt => assumption); (case hh => walk_at "hp"))
  ))

def spOddN (K : PySem.W.Frag) (C : Addr) : Sp := fun vs H Q _ => ∃ b, vs = [.ref b] ∧ Bag H b ∧ ∀ v H', But b H H' → Bag H' b → NPB K C H' b v → Q v H'
theorem ok_l_odd {f : Addr} {fd : FuncData} (F : Fun K "_law_odd" "_law_odd" s_l_odd f fd) (B : Bl mg) (G_Poly : PolyT K mg C) (hc_Poly : HasC P w K mg base "Poly" C 3 ["self", "terms"] (spInit C)) (X_InvalidPoly : OwnX K mg "InvalidPoly" A_InvalidPoly) (i1 : PySem.W.subIn K (.ref A_InvalidPoly) (.ref C) = some false) (i2 : (Value.ref A_InvalidPoly == Value.ref C) = false)
   (h_l_pick : Has P w K mg base "_law_pick" 1 ["_law_bag", "_law_many"] spPick) : FnOk P w K mg base CX0 5 f fd ["_law_bag"] (spOddN K C) := by
  refine F.ok sc_l_odd (fun vs H Q E h => ?_) (fun cdv A outer s H vs Q E hr h => ?_)
  · obtain ⟨b, rfl, _⟩ := h
    rfl
  · obtain ⟨b, rfl, hb, k⟩ := h
    refine ⟨_, (pss_cutM (ps_set (i := 1) sc_l_odd.nd rfl (.inl rfl) (pe_lst (pa_cons pe_non (pa_cons pe_bl (pa_cons pe_bl (pa_cons pe_str (pa_cons pe_str (pa_cons pe_str (pa_cons (pe_tup pa_nil) (pa_cons (pe_tup (pa_cons pe_int (pa_cons pe_int pa_nil))) (pa_cons (pe_tup (pa_cons pe_int pa_nil)) (pa_cons (pe_tup (pa_cons (pe_tup (pa_cons pe_int (pa_cons pe_int pa_nil))) pa_nil)) (pa_cons (pe_lst (pa_cons pe_int pa_nil)) (pa_cons (pe_lst (pa_cons (pe_lst (pa_cons pe_int (pa_cons pe_int pa_nil))) pa_nil)) (pa_cons (pe_op op_rep (pe_lst (pa_cons pe_non pa_nil)) pe_int) pa_nil)))))))))))))))
    (pss_cutM (ps_set (i := 1) sc_l_odd.nd rfl (.inl rfl) (pe_op op_cat (pv 1) (pe_lst (pa_cons (pe_lst (pa_cons (pe_tup (pa_cons pe_int (pa_cons pe_int (pa_cons pe_int pa_nil)))) pa_nil)) (pa_cons (pe_lst (pa_cons (pe_tup (pa_cons pe_int pa_nil)) pa_nil)) (pa_cons (pe_lst (pa_cons (pe_tup (pa_cons pe_str (pa_cons pe_int pa_nil))) pa_nil)) (pa_cons (pe_lst (pa_cons (pe_tup (pa_cons pe_bl (pa_cons pe_int pa_nil))) pa_nil)) (pa_cons (pe_lst (pa_cons (pe_tup (pa_cons pe_int (pa_cons pe_bl pa_nil))) pa_nil)) (pa_cons (pe_lst (pa_cons (pe_lst (pa_cons (pe_lst (pa_cons (pe_lst (pa_cons (pe_lst (pa_cons (pe_lst (pa_cons (pe_lst (pa_cons (pe_lst (pa_cons (pe_lst (pa_cons (pe_lst (pa_cons pe_str pa_nil)) pa_nil)) pa_nil)) pa_nil)) pa_nil)) pa_nil)) pa_nil)) pa_nil)) pa_nil)) pa_nil)) (pa_cons (pe_lst (pa_cons (pe_tup (pa_cons pe_int (pa_cons pe_non pa_nil))) pa_nil)) pa_nil))))))))))
    (pss_cutM (ps_expr (pe_bm PySem.F.plainAttrs_list PySem.F.slot_list_append PySem.F.type_list_append mt_append (pv 1) (pa_cons (pe_op op_cat (pe_lc (own := [("_law_k", 2)]) rfl sc_l_odd.nd (pi_range1 (by rfl) B.b_range (pa_cons pe_int pa_nil)) (blkOk_by (N := ["_law_bag", "_law_odds", "_law_k"]) (sc := defScope s_l_odd) (by decide +kernel)) (fun _ _ _ _ _ => (pg_name (i := 2) sc_l_odd.nd rfl (.inl rfl))) (fun _ _ _ _ _ => pts_nil) (fun _ _ _ _ _ => (pe_tup (pa_cons (pv 2) (pa_cons pe_int pa_nil))))) (pe_lst (pa_cons (pe_tup (pa_cons pe_int (pa_cons pe_str pa_nil))) pa_nil))) pa_nil)))
    (pss_cutM (ps_expr (pe_bm PySem.F.plainAttrs_list PySem.F.slot_list_append PySem.F.type_list_append mt_append (pv 1) (pa_cons (pe_exc1 PySem.F.excBase_ValueError X_InvalidPoly.xi X_InvalidPoly.g X_InvalidPoly.k rfl pe_str) pa_nil)))
    (pss_cutM (ps_expr (pe_bm PySem.F.plainAttrs_list PySem.F.slot_list_append PySem.F.type_list_append mt_append (pv 1) (pa_cons (pe_lst (pa_cons (pe_makeH hc_Poly (hr.mono (by first | decide | omega)) (pa_cons (pe_lst (pa_cons (pe_tup (pa_cons pe_int (pa_cons pe_int pa_nil))) pa_nil)) pa_nil)) pa_nil)) pa_nil)))
    (pss_one (ps_ret (pe_ix (ix_listK (K := K)) (pv 1) (pe_callH h_l_pick (hr.mono (by first | decide | omega)) (pa_cons (pv 0) (pa_cons (pe_callB (call_lenK (K := K)) (by rfl) B.b_len PySem.boot_len (pa_cons (pv 1) pa_nil)) pa_nil))) (fun _ _ => rfl))))))))), ?_⟩
    walk_at "go"
    refine r_cut (fun σ' H' => ∃ (l : Addr) (xs : List V), σ' = [some (.ref b), some (.ref l), none] ∧ Same H H' ∧ H l = none ∧ H' l = some (.lst xs) ∧ xs.length ≤ 20 ∧ 0 < xs.length ∧ ∀ v ∈ xs, NPB K C (delH H' l) b v) ?_ ?_
    · walk_at "go"
      intro e1 n1
      walk_at "go"
      intro e2 n2
      walk_at "go"
      intro e3 n3
      walk_at "go"
      intro e4 n4
      walk_at "go"
      intro e5 n5
      walk_at "go"
      intro e6 n6
      walk_at "go"
      intro e7 n7
      walk_at "go"
      intro e8 n8
      walk_at "go"
      intro e9 n9
      walk_at "go"
      refine r_rep (xs := [.non]) upd_same (by decide) (by decide) (by decide) fun e10 n10 => ?_
      walk_at "go"
      intro e11 n11
      walk_at "go"
      have sA := (Same.new (Same.new (Same.new (Same.new (Same.new (Same.new (Same.new (Same.new (Same.new (Same.new0 n1 (o := .tup [])) n2 (o := .tup [.int 0, .int 1])) n3 (o := .tup [.int 1])) n4 (o := .tup [.int 0, .int 1])) n5 (o := .tup [.ref e4])) n6 (o := .lst [.int 1])) n7 (o := .lst [.int 0, .int 1])) n8 (o := .lst [.ref e7])) n9 (o := .lst [.non])) n10 (o := .lst (List.replicate (299 : Int).toNat [V.non]).flatten))
      have hb2 := hb.same sA
      refine ⟨e11, _, rfl, (Same.new (Same.new (Same.new (Same.new (Same.new (Same.new (Same.new (Same.new (Same.new (Same.new (Same.new0 n1 (o := .tup [])) n2 (o := .tup [.int 0, .int 1])) n3 (o := .tup [.int 1])) n4 (o := .tup [.int 0, .int 1])) n5 (o := .tup [.ref e4])) n6 (o := .lst [.int 1])) n7 (o := .lst [.int 0, .int 1])) n8 (o := .lst [.ref e7])) n9 (o := .lst [.non])) n10 (o := .lst (List.replicate (299 : Int).toNat [V.non]).flatten)) n11 (o := .lst [.non, .bl true, .bl false, .str "", .str "1", .str "z + 1", .ref e1, .ref e2, .ref e3, .ref e5, .ref e6, .ref e8, .ref e10])), free_same sA n11, upd_same, by simp, by simp, fun v hv => NPB.but ?_ (off_new n11)⟩
      have en : ∀ x ∈ (List.replicate (299 : Int).toNat [V.non]).flatten, x = V.non := fun x hx => by
        obtain ⟨l, h1, h2⟩ := List.mem_flatten.mp hx
        rw [(List.mem_replicate.mp h1).2] at h2
        exact List.mem_singleton.mp h2
      simp only [List.mem_cons, List.not_mem_nil, or_false] at hv
      rcases hv with rfl | rfl | rfl | rfl | rfl | rfl | rfl | rfl | rfl | rfl | rfl | rfl | rfl
      · exact np_non G_Poly
      · exact np_bl G_Poly _
      · exact np_bl G_Poly _
      · exact np_str G_Poly _
      · exact np_str G_Poly _
      · exact np_str G_Poly _
      · exact np_tup G_Poly (xs := []) hb2 (by walk_at "hp")
      · exact np_tup G_Poly (xs := [.int 0, .int 1]) hb2 (by walk_at "hp")
      · exact np_tup G_Poly (xs := [.int 1]) hb2 (by walk_at "hp")
      · exact np_tup G_Poly (xs := [.ref e4]) hb2 (by walk_at "hp")
      · exact np_one G_Poly (x := .int 1) hb2 (by walk_at "hp")
      · exact np_one G_Poly (x := .ref e7) hb2 (by walk_at "hp")
      · exact np_lst G_Poly (xs := (List.replicate (299 : Int).toNat [V.non]).flatten) hb2 (by walk_at "hp") (nb_lst (xs := (List.replicate (299 : Int).toNat [V.non]).flatten) hb2 (by walk_at "hp") (by decide))
    rintro σ' H1 ⟨l, xs, rfl, s1, nl, hl, ln, l0, hw⟩
    have hb1 := hb.same s1
    walk_at "go"
    refine r_cut (fun σ' H' => ∃ (l : Addr) (xs : List V), σ' = [some (.ref b), some (.ref l), none] ∧ Same H H' ∧ H l = none ∧ H' l = some (.lst xs) ∧ xs.length ≤ 30 ∧ 0 < xs.length ∧ ∀ v ∈ xs, NPB K C (delH H' l) b v) ?_ ?_
    · walk_at "go"
      intro e1 n1
      walk_at "go"
      intro e2 n2
      walk_at "go"
      intro e3 n3
      walk_at "go"
      intro e4 n4
      walk_at "go"
      intro e5 n5
      walk_at "go"
      intro e6 n6
      walk_at "go"
      intro e7 n7
      walk_at "go"
      intro e8 n8
      walk_at "go"
      intro e9 n9
      walk_at "go"
      intro e10 n10
      walk_at "go"
      intro e11 n11
      walk_at "go"
      intro e12 n12
      walk_at "go"
      intro e13 n13
      walk_at "go"
      intro e14 n14
      walk_at "go"
      intro e15 n15
      walk_at "go"
      intro e16 n16
      walk_at "go"
      intro e17 n17
      walk_at "go"
      intro e18 n18
      walk_at "go"
      intro e19 n19
      walk_at "go"
      intro e20 n20
      walk_at "go"
      intro e21 n21
      walk_at "go"
      intro e22 n22
      walk_at "go"
      intro e23 n23
      walk_at "go"
      refine r_cat (xs := xs) (by walk_at "hp") upd_same (by simp only [List.length_cons, List.length_nil]; omega) fun e24 n24 => ?_
      walk_at "go"
      have sA := (Same.new (Same.new (Same.new (Same.new (Same.new (Same.new (Same.new (Same.new (Same.new (Same.new (Same.new (Same.new (Same.new (Same.new (Same.new (Same.new (Same.new (Same.new (Same.new (Same.new (Same.new (Same.new (Same.new0 n1 (o := .tup [.int 0, .int 1, .int 1])) n2 (o := .lst [.ref e1])) n3 (o := .tup [.int 0])) n4 (o := .lst [.ref e3])) n5 (o := .tup [.str "0", .int 1])) n6 (o := .lst [.ref e5])) n7 (o := .tup [.bl true, .int 1])) n8 (o := .lst [.ref e7])) n9 (o := .tup [.int 0, .bl false])) n10 (o := .lst [.ref e9])) n11 (o := .lst [.str "a"])) n12 (o := .lst [.ref e11])) n13 (o := .lst [.ref e12])) n14 (o := .lst [.ref e13])) n15 (o := .lst [.ref e14])) n16 (o := .lst [.ref e15])) n17 (o := .lst [.ref e16])) n18 (o := .lst [.ref e17])) n19 (o := .lst [.ref e18])) n20 (o := .lst [.ref e19])) n21 (o := .tup [.int 1, .non])) n22 (o := .lst [.ref e21])) n23 (o := .lst [.ref e2, .ref e4, .ref e6, .ref e8, .ref e10, .ref e20, .ref e22]))
      have hb2 := hb1.same sA
      refine ⟨e24, _, rfl, s1.trans (Same.new (Same.new (Same.new (Same.new (Same.new (Same.new (Same.new (Same.new (Same.new (Same.new (Same.new (Same.new (Same.new (Same.new (Same.new (Same.new (Same.new (Same.new (Same.new (Same.new (Same.new (Same.new (Same.new (Same.new0 n1 (o := .tup [.int 0, .int 1, .int 1])) n2 (o := .lst [.ref e1])) n3 (o := .tup [.int 0])) n4 (o := .lst [.ref e3])) n5 (o := .tup [.str "0", .int 1])) n6 (o := .lst [.ref e5])) n7 (o := .tup [.bl true, .int 1])) n8 (o := .lst [.ref e7])) n9 (o := .tup [.int 0, .bl false])) n10 (o := .lst [.ref e9])) n11 (o := .lst [.str "a"])) n12 (o := .lst [.ref e11])) n13 (o := .lst [.ref e12])) n14 (o := .lst [.ref e13])) n15 (o := .lst [.ref e14])) n16 (o := .lst [.ref e15])) n17 (o := .lst [.ref e16])) n18 (o := .lst [.ref e17])) n19 (o := .lst [.ref e18])) n20 (o := .lst [.ref e19])) n21 (o := .tup [.int 1, .non])) n22 (o := .lst [.ref e21])) n23 (o := .lst [.ref e2, .ref e4, .ref e6, .ref e8, .ref e10, .ref e20, .ref e22])) n24 (o := .lst (xs ++ [.ref e2, .ref e4, .ref e6, .ref e8, .ref e10, .ref e20, .ref e22]))), free_same (s1.trans sA) n24, upd_same, by simp; omega, by simp, fun v hv => NPB.but ?_ (off_new n24)⟩
      rcases List.mem_append.mp hv with hv | hv
      · exact (hw v hv).but (off_sub.trans (Same.but sA b))
      simp only [List.mem_cons, List.not_mem_nil, or_false] at hv
      rcases hv with rfl | rfl | rfl | rfl | rfl | rfl | rfl
      · exact np_one G_Poly (x := .ref e1) hb2 (by walk_at "hp")
      · exact np_one G_Poly (x := .ref e3) hb2 (by walk_at "hp")
      · exact np_one G_Poly (x := .ref e5) hb2 (by walk_at "hp")
      · exact np_one G_Poly (x := .ref e7) hb2 (by walk_at "hp")
      · exact np_one G_Poly (x := .ref e9) hb2 (by walk_at "hp")
      · exact np_one G_Poly (x := .ref e19) hb2 (by walk_at "hp")
      · exact np_one G_Poly (x := .ref e21) hb2 (by walk_at "hp")
    clear hw l0 ln nl hl hb1 s1
    clear l xs
    rintro σ' H1 ⟨l, xs, rfl, s1, nl, hl, ln, l0, hw⟩
    have hb1 := hb.same s1
    have bl : b ≠ l := (hb.ne nl).symm
    walk_at "go"
    refine r_cut (fun σ' H' => ∃ (l : Addr) (xs : List V) (y2 : Option V), σ' = [some (.ref b), some (.ref l), y2] ∧ Same H H' ∧ H l = none ∧ H' l = some (.lst xs) ∧ xs.length ≤ 31 ∧ 0 < xs.length ∧ ∀ v ∈ xs, NPB K C (delH H' l) b v) ?_ ?_
    · walk_at "go"
      refine u_lc1 ⟨by decide, by decide⟩ (fun D i acc H' => (∃ ts : Terms, TermsL H' acc ts ∧ ts.length = i) ∧ Same H1 H') ?_ ?_ ?_
      · exact fun D hD => ⟨⟨[], rfl, rfl⟩, Same.new0 hD⟩
      · rintro D i acc H2 hD hi hacc ⟨⟨ts, ht, lt⟩, sm⟩
        have al := ht.length
        walk_at "go"
        refine ⟨rfl, ?_⟩
        walk_at "go"
        intro t nt
        refine u_push (h_keep hacc nt) (by omega) ⟨⟨ts ++ [((i : Int), 1)], ?_, by simp [lt]⟩, Same.put (Same.new sm nt) hD⟩
        have t1 : Tk H2 (upd (upd H2 t (.tup [.int (i : Int), .int 1])) D (.lst (acc ++ [.ref t]))) := ((Tk.refl _).new nt).lst (h_keep hacc nt)
        exact (ht.tk t1).app (.one ((upd_ne (ne_of_none hacc nt).symm).trans upd_same))
      · rintro D acc H2 hD hacc ⟨⟨ts, ht, lt⟩, sm⟩
        have al := ht.length
        walk_at "go"
        intro e1 n1
        walk_at "go"
        intro e2 n2
        refine r_cat (xs := acc) (by walk_at "hp") upd_same (by simp only [List.length_cons, List.length_nil]; rw [al, lt]; decide) fun m nm => ?_
        walk_at "go"
        have sC := (Same.new (Same.new (Same.new0 n1 (o := .tup [.int 0, .str "1"])) n2 (o := .lst [.ref e1])) nm (o := .lst (acc ++ [.ref e1])))
        have hl3 := (sm.trans sC) _ _ hl
        have hb3 := hb1.same (sm.trans sC)
        have hm : (upd (upd (upd H2 e1 (.tup [.int 0, .str "1"])) e2 (.lst [.ref e1])) m (.lst (acc ++ [.ref e1]))) m = some (.lst (acc ++ [.ref e1])) := upd_same
        have he1 : (upd (upd (upd H2 e1 (.tup [.int 0, .str "1"])) e2 (.lst [.ref e1])) m (.lst (acc ++ [.ref e1]))) e1 = some (.tup [.int 0, .str "1"]) := by walk_at "hp"
        have ht := ht.tk (Tk.same sC)
        have hml : m ≠ l := (ne_of_none (by walk_at "hp" : (upd (upd H2 e1 (.tup [.int 0, .str "1"])) e2 (.lst [.ref e1])) l = some (.lst xs)) nm).symm
        generalize upd (upd (upd H2 e1 _) e2 _) m _ = H3 at *
        refine ⟨l, _, _, rfl, Same.put ((s1.trans sm).trans sC) nl, nl, upd_same, by simp; omega, by simp, ?_⟩
        rw [off_upd]
        intro v hv
        have hbo := bag_off hb3 bl
        rcases List.mem_append.mp hv with hv | hv
        · exact (hw v hv).but (off_same (sm.trans sC))
        · rw [List.mem_singleton.mp hv]
          have ot : ∀ {p : Addr} {ys : List V}, H3 p = some (.tup ys) → delH H3 l p = some (.tup ys) := fun h => off_at h (by rintro rfl; rw [hl3] at h; cases h)
          exact np_lst G_Poly hbo (off_at hm hml) (nb_lst hb3 hm (by rw [List.length_append, al, lt]; simp))
    clear hw l0 ln hl hb1 s1 bl nl
    clear l xs
    rintro σ' H1 ⟨l, xs, y2, rfl, s1, nl, hl, ln, l0, hw⟩
    have hb1 := hb.same s1
    have bl : b ≠ l := (hb.ne nl).symm
    walk_at "go"
    refine r_cut (fun σ' H' => ∃ (l : Addr) (xs : List V) (y2 : Option V), σ' = [some (.ref b), some (.ref l), y2] ∧ Same H H' ∧ H l = none ∧ H' l = some (.lst xs) ∧ xs.length ≤ 32 ∧ 0 < xs.length ∧ ∀ v ∈ xs, NPB K C (delH H' l) b v) ?_ ?_
    · walk_at "go"
      intro e1 n1
      walk_at "go"
      have sC := Same.new0 n1 (o := ExO (.ref A_InvalidPoly) e1)
      have he1 : (upd H1 e1 (ExO (.ref A_InvalidPoly) e1)) e1 = some (ExO (.ref A_InvalidPoly) e1) := upd_same
      have nel : e1 ≠ l := (ne_of_none hl n1).symm
      have hl3 := sC _ _ hl
      have hb3 := hb1.same sC
      generalize upd H1 e1 _ = H3 at *
      refine ⟨l, _, _, rfl, Same.put (s1.trans sC) nl, nl, upd_same, by simp; omega, by simp, ?_⟩
      rw [off_upd]
      intro v hv
      rcases List.mem_append.mp hv with hv | hv
      · exact (hw v hv).but (off_same sC)
      · rw [List.mem_singleton.mp hv]
        exact np_exc G_Poly (bag_off hb3 bl) (off_at he1 nel) X_InvalidPoly.e i1 i2
    clear hw l0 ln hl hb1 s1 bl nl
    clear l xs y2
    rintro σ' H1 ⟨l, xs, y2, rfl, s1, nl, hl, ln, l0, hw⟩
    have hb1 := hb.same s1
    have bl : b ≠ l := (hb.ne nl).symm
    walk_at "go"
    refine r_cut (fun σ' H' => ∃ (l : Addr) (xs : List V) (y2 : Option V), σ' = [some (.ref b), some (.ref l), y2] ∧ Same H H' ∧ H l = none ∧ H' l = some (.lst xs) ∧ xs.length ≤ 33 ∧ 0 < xs.length ∧ ∀ v ∈ xs, NPB K C (delH H' l) b v) ?_ ?_
    · walk_at "go"
      intro e1 n1
      walk_at "go"
      intro e2 n2
      walk_at "go"
      refine u_poly (l := e2) (ts := [(0, 1)]) ⟨[.ref e1], upd_same, .one (h_keep upd_same n2)⟩ (by decide) fun z1 w1 G1 nz1 t1 hz1 _ _ => ?_
      have t1 := (Same.new (Same.new0 n1 (o := .tup [.int 0, .int 1])) n2 (o := .lst [.ref e1])).trans t1
      walk_at "go"
      intro e3 n3
      walk_at "go"
      have hlg := t1 _ _ hl
      have nel : e3 ≠ l := (ne_of_none hlg n3).symm
      have sC := t1.trans (Same.new0 n3 (o := .lst [.ref z1]))
      have he3 : (upd G1 e3 (.lst [.ref z1])) e3 = some (.lst [.ref z1]) := upd_same
      have hz := hz1.same (Same.new0 n3 (o := .lst [.ref z1]))
      have hl3 := sC _ _ hl
      have hb3 := hb1.same sC
      generalize upd G1 e3 _ = H3 at *
      refine ⟨l, _, _, rfl, Same.put (s1.trans sC) nl, nl, upd_same, by simp; omega, by simp, ?_⟩
      rw [off_upd]
      intro v hv
      rcases List.mem_append.mp hv with hv | hv
      · exact (hw v hv).but (off_same sC)
      · rw [List.mem_singleton.mp hv]
        exact np_one G_Poly (bag_off hb3 bl) (off_at he3 nel)
    clear hw l0 ln hl hb1 s1 bl nl
    clear l xs y2
    rintro σ' H1 ⟨l, xs, y2, rfl, s1, nl, hl, ln, l0, hw⟩
    have hb1 := hb.same s1
    have bl : b ≠ l := (hb.ne nl).symm
    walk_at "go"
    refine u_pick hb1 (by omega) (by omega) fun r H2 r0 r1 bu b2 => ?_
    have hl2 := bu _ _ bl.symm hl
    obtain ⟨v, hv, ev⟩ := atI_mem r0 r1
    walk_at "go"
    refine r_ixL (.of hl2) ev ?_
    walk_at "go"
    exact k v H2 ((Same.but s1 b).trans bu) b2 ((hw v hv).but (off_sub.trans bu))
end

set_option Elab.async false
set_option linter.all false
set_option maxRecDepth 100000
set_option maxHeartbeats 8000000
set_option pp.deepTerms false
set_option pp.deepTerms.threshold 12
set_option pp.maxSteps 1200

open PySem PySem.Spec PyProof.Rows L2 RT
/-- a string that is no name -/
def NoNm (s : Str) : Prop := s ∈ ([("" : Str), "ab", "A", "1", " ", "{"] : List Str)
def NotStr (K : PySem.W.Frag) (H : Hp) (v : V) : Prop := ∃ t, TyE K H v t ∧ PySem.W.kitOne K t (.type "str") = some false
def spIsNameT (K : PySem.W.Frag) : Sp := fun vs H Q _ => ∃ v, vs = [v] ∧ ((∃ n, v = .str n ∧ IsName n ∧ Q (.bl true) H) ∨ (∃ n, v = .str n ∧ NoNm n ∧ Q (.bl false) H) ∨ (NotStr K H v ∧ Q (.bl false) H))
def spRawDraw (C : Addr) : Sp := fun vs H Q _ => ∃ (a : Addr) (ts : Terms) (nm : Str), vs = [.ref a, .str nm] ∧ PolyAt C H a ts ∧ absT ts + ts.length ≤ 3000 ∧ ∀ q H', Same H H' → PrIs H' q (drawP nm ts) → Q (.ref q) H'
def spChkPolyX (K : PySem.W.Frag) (C A : Addr) : Sp := fun vs H Q E => ∃ v, vs = [v] ∧ ((∃ a ts, v = .ref a ∧ PolyAt C H a ts ∧ Q .non H) ∨ ((∃ t, TyE K H v t ∧ PySem.W.kitOne K t (.ref C) = some false) ∧ E (.ref A) none H))
section
variable {P : Program} {w : World} {K : PySem.W.Frag} {mg : Str → Option Value} {base : Heap} {C A_AngleError A_InvalidPoly A_InvalidName A_InvalidOrders A_NoProgram A_InvalidOrder A_InvalidNumber A_InvalidProgram : Addr}

local macro_rules | `(tactic| walk_at "s") => `(tactic| (first
  | (with_reducible refine r_dnew ?_)
  | (with_reducible refine r_dget2 ?_)
  | (with_reducible refine r_dget ?_)
  | (with_reducible refine r_dput ?_)
  | (with_reducible refine r_dsetd ?_)
  | ((with_reducible refine JarAt.isD (n := ?nn) (c := ?cc) ?hh ?_); (case hh => assumption))
  ))

local macro_rules | `(tactic| walk_at "s") => `(tactic| (first
  | (with_reducible refine r_prop ?_)
  | (with_reducible refine r_meth ?_)
  | (with_reducible refine r_make ?_)
  | (with_reducible refine r_fld ?_)
  | (with_reducible refine r_sfld ?_)
  | (with_reducible refine r_iOwn ?_)
  | ((with_reducible refine u_rowsAt (mg := ?mm) (C := ?CC) (dx := ?dd) (fv := ?vv) ?tt ?hh ?_); (case tt => assumption); (case hh => walk_at "hp"))
  | ((with_reducible refine r_isPoly (mg := ?mm) (dx := ?dd) (fs := ?ff) ?tt ?hh ?_); (case tt => assumption); (case hh => walk_at "hp"))
  | ((with_reducible refine r_isPolyI (mg := ?mm) ?tt ?_); (case tt => assumption))
  | ((with_reducible refine r_polyInt (mg := ?mm) (C := ?CC) (dx := ?dd) (fs := ?ff) ?tt ?hh ?_); (case tt => assumption); (case hh => walk_at "hp"))
  ))

local macro_rules | `(tactic| walk_at "s") => `(tactic| (first
  | (with_reducible refine r_callX ?_)
  | (with_reducible refine r_callXK ?_)
  | (with_reducible refine r_iOwn ?_)
  ))
theorem ok_is_nameT {f : Addr} {fd : FuncData} (F : Fun K "is_name" "is_name" s_is_name f fd) (B : Bl mg) : FnOk P w K mg base CX0 1 f fd ["value"] (spIsNameT K) := by
  refine F.ok sc_is_name (fun vs H Q E h => ?_) (fun cdv A outer s H vs Q E hr h => ?_)
  · obtain ⟨c, rfl, _⟩ := h
    rfl
  · obtain ⟨v, rfl, h⟩ := h
    refine ⟨_, (pss_one (ps_ret (pe_and (pe_callB (call_isiEK (K := K)) (by rfl) B.b_isinstance (by decide +kernel) (pa_cons (pv 0) (pa_cons (pe_bltn (v := .ty "str") (by rfl) B.b_str (by decide +kernel) rfl) pa_nil))) (pe_and (pe_cmpR op_eq (pe_callB call_lenS (by rfl) B.b_len PySem.boot_len (pa_cons (pv 0) pa_nil)) pe_int (nomark _)) (pe_one (pe_chain op_leS op_leS pe_str (pv 0) pe_str)))))), ?_⟩
    walk_at "go"
    rcases h with ⟨n, rfl, hn, k⟩ | ⟨n, rfl, hn, k⟩ | ⟨⟨t, ty, e⟩, k⟩
    · have h1 := name_len hn
      have h2 := letter_a hn
      have h3 := letter_z hn
      refine r_isiE' (b := true) (.ty _) (.x ty_str) (kit_ty (by decide +kernel)) ?_
      walk_at "go"
      show Q (V.bl !decide _) H
      rw [decide_eq_false h3]
      exact k
    · refine r_isiE' (b := true) (.ty _) (.x ty_str) (kit_ty (by decide +kernel)) ?_
      walk_at "go"
      unfold NoNm at hn
      simp only [List.mem_cons, List.not_mem_nil, or_false] at hn
      rcases hn with rfl | rfl | rfl | rfl | rfl | rfl
      all_goals refine r_lenS (by decide) ?_
      all_goals walk_at "go"
      · exact k
      · exact k
      · exact k
      · exact k
      · exact k
      · show Q (V.bl !decide _) H
        rw [decide_eq_true (by decide)]
        exact k
    · refine r_isiE' (.ty _) ty e ?_
      walk_at "go"
      exact k
theorem ok_check_polyX {f : Addr} {fd : FuncData} (F : Fun K "check_poly" "check_poly" s_check_poly f fd) (B : Bl mg) (G_Poly : PolyT K mg C) (X_InvalidPoly : OwnX K mg "InvalidPoly" A_InvalidPoly) : FnOk P w K mg base (L2.CX P w) 1 f fd ["value"] (spChkPolyX K C A_InvalidPoly) := by
  refine F.okX sc_check_poly (fun vs H Q E h => ?_) (fun cdv A outer s H vs Q E hr h => ?_)
  · obtain ⟨v, rfl, _⟩ := h
    rfl
  · obtain ⟨v, rfl, h⟩ := h
    refine ⟨_, (pss_one (ps_if (pt_not (pt_val (pe_callB (call_isiEK (K := K)) (by rfl) B.b_isinstance (by decide +kernel) (pa_cons (pv 0) (pa_cons (pe_glob (v := .ref C) rfl G_Poly.mgC rfl) pa_nil)))))
    (pss_one (ps_raise rfl (takes_of rfl rfl rfl rfl) (pmk_own PySem.F.excBase_ValueError X_InvalidPoly.xi X_InvalidPoly.g X_InvalidPoly.k (raises_own X_InvalidPoly.b X_InvalidPoly.t) rfl)))
    pss_nil)), ?_⟩
    walk_at "go"
    rcases h with ⟨a, ts, rfl, ⟨dx, r, vs, h1, h2⟩, k⟩ | ⟨⟨t, ty, e⟩, k⟩
    · refine r_isiE' (b := true) (.own C) (.x (ty_poly G_Poly h1)) kit_self ?_
      walk_at "go"
      exact k
    · refine r_isiE' (.own C) ty e ?_
      walk_at "go"
      exact k
theorem ok_raw_drawing {f : Addr} {fd : FuncData} (F : Fun K "raw_drawing" "raw_drawing" s_raw_drawing f fd) (B : Bl mg) (bAbs : mg "abs" = none) (G_Poly : PolyT K mg C) (hs_Poly___iter__ : HasS P w K mg base C "__iter__" 1 ["self"] (spIter K C "rows")) : FnOk P w K mg base CX0 2 f fd ["poly", "name"] (spRawDraw C) := by
  refine F.ok sc_raw_drawing (fun vs H Q E h => ?_) (fun cdv A outer s H vs Q E hr h => ?_)
  · obtain ⟨a, ts, nm, rfl, _⟩ := h
    rfl
  · obtain ⟨a, ts, nm, rfl, ha, hl, k⟩ := h
    refine ⟨_, (pss_cons (ps_set (i := 2) sc_raw_drawing.nd rfl (.inl rfl) (pe_lst pa_nil))
    (pss_cons (ps_set (i := 3) sc_raw_drawing.nd rfl (.inl rfl) pe_int)
    (pss_cons (ps_for PassesOwn.never rfl (pi_ownK (K := K) (pv 0) hs_Poly___iter__ (hr.mono (by first | decide | omega))) (pg_tup (by rfl) (pgs_cons (pg_name (i := 4) sc_raw_drawing.nd rfl (.inl rfl)) (pgs_cons (pg_name (i := 5) sc_raw_drawing.nd rfl (.inl rfl)) pgs_nil)))
    (pss_cutM (ps_if (pt_cmpR op_ne (pv 4) (pv 3) (nomark _))
    (pss_cons (ps_expr (pe_bm PySem.F.plainAttrs_list PySem.F.slot_list_append PySem.F.type_list_append mt_append (pv 2) (pa_cons (pe_tup (pa_cons pe_str (pa_cons (pe_op op_sub (pv 4) (pv 3)) pa_nil))) pa_nil)))
    (pss_one (ps_set (i := 3) sc_raw_drawing.nd rfl (.inl rfl) (pv 4))))
    pss_nil)
    (pss_one (ps_expr (pe_bm PySem.F.plainAttrs_list PySem.F.slot_list_extend PySem.F.type_list_extend mt_extend (pv 2) (pa_cons (pe_op op_rep (pe_lst (pa_cons (pe_tup (pa_cons (pe_ifExp (pt_cmpR op_gt (pv 5) pe_int (nomark _)) pe_str pe_str) (pa_cons (pv 1) pa_nil))) pa_nil)) (pe_callB call_absA (by rfl) bAbs (by decide +kernel) (pa_cons (pv 5) pa_nil))) pa_nil))))))
    (pss_cons (ps_if (pt_cmpR op_eq (pe_callB (call_lenK (K := K)) (by rfl) B.b_len PySem.boot_len (pa_cons (pv 2) pa_nil)) pe_int (nomark _))
    (pss_one (ps_expr (pe_bm PySem.F.plainAttrs_list PySem.F.slot_list_append PySem.F.type_list_append mt_append (pv 2) (pa_cons (pe_tup (pa_cons pe_str (pa_cons pe_int pa_nil))) pa_nil))))
    pss_nil)
    (pss_one (ps_ret (pe_callTy call_tupL (by rfl) B.b_tuple (by decide +kernel) (pa_cons (pv 2) pa_nil)))))))), ?_⟩
    walk_at "go"
    intro cm ncm
    have s0 : Same H (upd H cm (.lst [])) := Same.new0 ncm
    have ecm : upd H cm (.lst []) cm = some (.lst []) := upd_same
    generalize upd H cm (.lst []) = H0 at *
    obtain ⟨dx, r, vs, h1, h2, h3, h4⟩ := ha
    walk_at "go"
    refine ⟨a, dx, _, r, vs, rfl, s0 _ _ h1, rfl, .of (s0 _ _ h2), ?_⟩
    refine for_tup (xs := vs) (fun i σ H' => ∃ (xs : List V) (y4 y5 : Option V), σ = [some (.ref a), some (.str nm), some (.ref cm), some (.int (lastP 0 (ts.take i))), y4, y5] ∧ i ≤ ts.length ∧ Same H H' ∧ H' cm = some (.lst xs) ∧ PrAt H' (drawT nm 0 (ts.take i)) xs ∧ xs.length ≤ absT (ts.take i) + i) ⟨[], _, _, rfl, Nat.zero_le _, s0, ecm, rfl, by simp⟩ ?_ ?_ ?_
    · rintro i σ H' _ ⟨xs, y4, y5, rfl, _, sm, _⟩
      exact .of (sm _ _ h2)
    · rintro i x σ H' hx ⟨xs, y4, y5, rfl, hi, sm, hcm, hp, lx⟩
      obtain ⟨c, q, rfl, hq, hc⟩ := h3.at i hx
      have hc2 := sm _ _ hc
      have hi2 := (List.getElem?_eq_some_iff.mp hq).1
      have htk : ts.take (i + 1) = ts.take i ++ [q] := by rw [List.take_succ, hq]; rfl
      have la : absT (ts.take i) + q.2.natAbs ≤ absT ts := by
        have e : absT (ts.take (i + 1)) + absT (ts.drop (i + 1)) = absT ts := by rw [← absT_app, List.take_append_drop]
        rw [htk, absT_app, absT, absT] at e
        omega
      have hdS : drawT nm 0 (ts.take (i + 1)) = (drawT nm 0 (ts.take i)).app (drawS nm (lastP 0 (ts.take i)) q) := by rw [htk, drawT_snoc]
      have hlP : lastP 0 (ts.take (i + 1)) = q.1 := by rw [htk]; unfold lastP; rw [List.getLast?_append]; rfl
      have haT : absT (ts.take (i + 1)) = absT (ts.take i) + q.2.natAbs := by rw [htk, absT_app, absT, absT]; omega
      rw [hdS, hlP, haT]
      generalize lastP 0 (ts.take i) = now at *
      walk_at "go"
      refine r_cut (fun σ H2 => ∃ (ys : List V), σ = [some (.ref a), some (.str nm), some (.ref cm), some (.int q.1), some (.int q.1), some (.int q.2)] ∧ Same H H2 ∧ H2 cm = some (.lst ys) ∧ PrAt H2 ((drawT nm 0 (ts.take i)).app (if q.1 = now then .nil else .turn (q.1 - now) .nil)) ys ∧ ys.length ≤ absT (ts.take i) + i + 1) ?_ ?_
      · walk_at "go"
        refine r_iteN (fun z => ?_) (fun z => ?_)
        · walk_at "go"
          intro t1 nt1
          have hc3 := h_keep hcm nt1 (o := .tup [.str "turn", .int (q.1 - now)])
          have s3 := sm.trans (Same.new0 (o := .tup [.str "turn", .int (q.1 - now)]) nt1)
          have tk1 : Tk H' (upd (upd H' t1 (.tup [.str "turn", .int (q.1 - now)])) cm (.lst (xs ++ [.ref t1]))) := ((Tk.refl H').new nt1).lst hc3
          have e1 : (upd (upd H' t1 (.tup [.str "turn", .int (q.1 - now)])) cm (.lst (xs ++ [.ref t1]))) t1 = some (.tup [.str "turn", .int (q.1 - now)]) := (upd_ne (Ne.symm (ne_of_none hcm nt1))).trans upd_same
          walk_at "go"
          refine ⟨xs ++ [.ref t1], rfl, Same.put s3 ncm, upd_same, ?_, by rw [List.length_append, List.length_singleton]; omega⟩
          rw [if_neg z]
          exact (hp.tk tk1).app ⟨t1, [], rfl, e1, rfl⟩
        · walk_at "go"
          refine ⟨xs, ?_, sm, hcm, ?_, by omega⟩
          · rw [z]
            rfl
          · rw [if_pos z, Prog.app_nil]
            exact hp
      · rintro σ H2 ⟨ys, rfl, s2, hc2', hp2, ly⟩
        walk_at "go"
        refine r_iteD (fun z => ?_) (fun z => ?_)
        · have ew : ("go" : Str) = wordOf q.2 := (if_pos z).symm
          walk_at "go"
          rw [ew]
          intro t1 nt1
          walk_at "go"
          intro t2 nt2
          have et1 : upd (upd H2 t1 (.tup [.str (wordOf q.2), .str nm])) t2 (.lst [.ref t1]) t1 = some (.tup [.str (wordOf q.2), .str nm]) := h_keep upd_same nt2
          have et2 : upd (upd H2 t1 (.tup [.str (wordOf q.2), .str nm])) t2 (.lst [.ref t1]) t2 = some (.lst [.ref t1]) := upd_same
          have s4 : Same H2 (upd (upd H2 t1 (.tup [.str (wordOf q.2), .str nm])) t2 (.lst [.ref t1])) := Same.new (Same.new0 nt1) nt2
          generalize upd (upd H2 t1 (.tup [.str (wordOf q.2), .str nm])) t2 (.lst [.ref t1]) = H4 at *
          walk_at "go"
          refine r_abs ?_
          rw [iabsD]
          walk_at "go"
          refine r_rep et2 (by omega) (by omega) (by rw [List.length_singleton, Int.toNat_natCast]; omega) fun l3 nl3 => ?_
          rw [Int.toNat_natCast]
          have hst : PrAt H4 (.step (wordOf q.2) nm .nil) [.ref t1] := ⟨t1, [], rfl, et1, rfl⟩
          have htm := hst.times q.2.natAbs
          have s5 := Same.new0 (o := .lst (List.replicate q.2.natAbs [V.ref t1]).flatten) nl3
          have el3 : upd H4 l3 (.lst (List.replicate q.2.natAbs [V.ref t1]).flatten) l3 = some (.lst (List.replicate q.2.natAbs [V.ref t1]).flatten) := upd_same
          have lft := htm.length
          rw [len_timesD] at lft
          have e1 : (Prog.step (wordOf q.2) nm .nil).len = 1 := rfl
          rw [e1] at lft
          generalize (List.replicate q.2.natAbs [V.ref t1]).flatten = zs at *
          generalize upd H4 l3 (.lst zs) = H5 at *
          have hc5 := s5 _ _ (s4 _ _ hc2')
          walk_at "go"
          refine r_extend hc5 el3 (by omega) ?_
          walk_at "go"
          refine ⟨ys ++ zs, _, _, rfl, hi2, Same.put ((s2.trans s4).trans s5) ncm, upd_same, ?_, by rw [List.length_append]; omega⟩
          have tkf : Tk H4 (upd H5 cm (.lst (ys ++ zs))) := (Tk.same s5).lst hc5
          have hp5 := ((hp2.tk (Tk.same s4)).tk tkf).app (htm.tk tkf)
          rw [Prog.app_assoc] at hp5
          exact hp5
        · have ew : ("back" : Str) = wordOf q.2 := (if_neg z).symm
          walk_at "go"
          rw [ew]
          intro t1 nt1
          walk_at "go"
          intro t2 nt2
          have et1 : upd (upd H2 t1 (.tup [.str (wordOf q.2), .str nm])) t2 (.lst [.ref t1]) t1 = some (.tup [.str (wordOf q.2), .str nm]) := h_keep upd_same nt2
          have et2 : upd (upd H2 t1 (.tup [.str (wordOf q.2), .str nm])) t2 (.lst [.ref t1]) t2 = some (.lst [.ref t1]) := upd_same
          have s4 : Same H2 (upd (upd H2 t1 (.tup [.str (wordOf q.2), .str nm])) t2 (.lst [.ref t1])) := Same.new (Same.new0 nt1) nt2
          generalize upd (upd H2 t1 (.tup [.str (wordOf q.2), .str nm])) t2 (.lst [.ref t1]) = H4 at *
          walk_at "go"
          refine r_abs ?_
          rw [iabsD]
          walk_at "go"
          refine r_rep et2 (by omega) (by omega) (by rw [List.length_singleton, Int.toNat_natCast]; omega) fun l3 nl3 => ?_
          rw [Int.toNat_natCast]
          have hst : PrAt H4 (.step (wordOf q.2) nm .nil) [.ref t1] := ⟨t1, [], rfl, et1, rfl⟩
          have htm := hst.times q.2.natAbs
          have s5 := Same.new0 (o := .lst (List.replicate q.2.natAbs [V.ref t1]).flatten) nl3
          have el3 : upd H4 l3 (.lst (List.replicate q.2.natAbs [V.ref t1]).flatten) l3 = some (.lst (List.replicate q.2.natAbs [V.ref t1]).flatten) := upd_same
          have lft := htm.length
          rw [len_timesD] at lft
          have e1 : (Prog.step (wordOf q.2) nm .nil).len = 1 := rfl
          rw [e1] at lft
          generalize (List.replicate q.2.natAbs [V.ref t1]).flatten = zs at *
          generalize upd H4 l3 (.lst zs) = H5 at *
          have hc5 := s5 _ _ (s4 _ _ hc2')
          walk_at "go"
          refine r_extend hc5 el3 (by omega) ?_
          walk_at "go"
          refine ⟨ys ++ zs, _, _, rfl, hi2, Same.put ((s2.trans s4).trans s5) ncm, upd_same, ?_, by rw [List.length_append]; omega⟩
          have tkf : Tk H4 (upd H5 cm (.lst (ys ++ zs))) := (Tk.same s5).lst hc5
          have hp5 := ((hp2.tk (Tk.same s4)).tk tkf).app (htm.tk tkf)
          rw [Prog.app_assoc] at hp5
          exact hp5
    · rintro σ H' ⟨xs, y4, y5, rfl, hi, sm, hcm, hp, lx⟩
      have lvs := h3.length
      rw [lvs, List.take_length] at hp lx
      have lxs := hp.length
      walk_at "go"
      refine r_iteD (fun z => ?_) (fun z => ?_)
      · have ets : ts = [] := by
          refine Decidable.byContradiction fun ne => ?_
          have := drawT_pos nm (now := 0) ne (fun p hp => (h4.nz p hp))
          omega
        have exs : xs = [] := List.eq_nil_of_length_eq_zero (by omega)
        subst exs
        walk_at "go"
        intro t1 nt1
        have hc3 := h_keep hcm nt1 (o := .tup [.str "turn", .int 0])
        have s3 := sm.trans (Same.new0 (o := .tup [.str "turn", .int 0]) nt1)
        have e1 : (upd (upd H' t1 (.tup [.str "turn", .int 0])) cm (.lst ([] ++ [.ref t1]))) t1 = some (.tup [.str "turn", .int 0]) := (upd_ne (Ne.symm (ne_of_none hcm nt1))).trans upd_same
        have s4 : Same H (upd (upd H' t1 (.tup [.str "turn", .int 0])) cm (.lst ([] ++ [.ref t1]))) := Same.put s3 ncm
        walk_at "go"
        intro q nq
        refine k q _ (s4.trans (Same.new0 nq)) ⟨_, upd_same, ?_⟩
        unfold drawP
        rw [if_pos ets]
        exact ⟨t1, [], rfl, h_keep e1 nq, rfl⟩
      · have ets : ts ≠ [] := fun e => z (by rw [e, drawT] at lxs; rw [lxs]; rfl)
        walk_at "go"
        intro q nq
        have sq := Same.new0 (o := .tup xs) nq
        refine k q _ (sm.trans sq) ⟨_, upd_same, ?_⟩
        unfold drawP
        rw [if_neg ets]
        exact hp.tk (Tk.same sq)
end

set_option Elab.async false
set_option linter.all false
set_option maxRecDepth 100000
set_option maxHeartbeats 4000000

open PySem PySem.Spec PyProof.Rows L2
section
variable {P : Program} {w : World} {K : PySem.W.Frag} {mg : Str → Option Value} {base : Heap} {C A_InvalidPoly : Addr}

local macro_rules | `(tactic| walk_at "s") => `(tactic| (first
  | (with_reducible refine r_dnew ?_)
  | (with_reducible refine r_dget2 ?_)
  | (with_reducible refine r_dget ?_)
  | (with_reducible refine r_dput ?_)
  | (with_reducible refine r_dsetd ?_)
  | ((with_reducible refine JarAt.isD (n := ?nn) (c := ?cc) ?hh ?_); (case hh => assumption))
  ))

local macro_rules | `(tactic| walk_at "s") => `(tactic| (first
  | (with_reducible refine r_prop ?_)
  | (with_reducible refine r_meth ?_)
  | (with_reducible refine r_make ?_)
  | (with_reducible refine r_fld ?_)
  | (with_reducible refine r_sfld ?_)
  | (with_reducible refine r_iOwn ?_)
  | ((with_reducible refine u_rowsAt (mg := ?mm) (C := ?CC) (dx := ?dd) (fv := ?vv) ?tt ?hh ?_); (case tt => assumption); (case hh => walk_at "hp"))
  | ((with_reducible refine r_isPoly (mg := ?mm) (dx := ?dd) (fs := ?ff) ?tt ?hh ?_); (case tt => assumption); (case hh => walk_at "hp"))
  | ((with_reducible refine r_isPolyI (mg := ?mm) ?tt ?_); (case tt => assumption))
  | ((with_reducible refine r_polyInt (mg := ?mm) (C := ?CC) (dx := ?dd) (fs := ?ff) ?tt ?hh ?_); (case tt => assumption); (case hh => walk_at "hp"))
  ))

end

set_option Elab.async false
set_option linter.all false
set_option maxRecDepth 100000
set_option maxHeartbeats 4000000

open PySem PySem.Spec PyProof.Rows L2
section
variable {P : Program} {w : World} {K : PySem.W.Frag} {mg : Str → Option Value} {base : Heap} {C A_AngleError A_InvalidPoly A_InvalidDivisor A_InvalidNumber : Addr}

local macro_rules | `(tactic| walk_at "s") => `(tactic| (first
  | (with_reducible refine r_dnew ?_)
  | (with_reducible refine r_dget2 ?_)
  | (with_reducible refine r_dget ?_)
  | (with_reducible refine r_dput ?_)
  | (with_reducible refine r_dsetd ?_)
  | ((with_reducible refine JarAt.isD (n := ?nn) (c := ?cc) ?hh ?_); (case hh => assumption))
  ))

local macro_rules | `(tactic| walk_at "s") => `(tactic| (first
  | (with_reducible refine r_prop ?_)
  | (with_reducible refine r_meth ?_)
  | (with_reducible refine r_make ?_)
  | (with_reducible refine r_fld ?_)
  | (with_reducible refine r_sfld ?_)
  | (with_reducible refine r_iOwn ?_)
  | ((with_reducible refine u_rowsAt (mg := ?mm) (C := ?CC) (dx := ?dd) (fv := ?vv) ?tt ?hh ?_); (case tt => assumption); (case hh => walk_at "hp"))
  | ((with_reducible refine r_isPoly (mg := ?mm) (dx := ?dd) (fs := ?ff) ?tt ?hh ?_); (case tt => assumption); (case hh => walk_at "hp"))
  | ((with_reducible refine r_isPolyI (mg := ?mm) ?tt ?_); (case tt => assumption))
  | ((with_reducible refine r_polyInt (mg := ?mm) (C := ?CC) (dx := ?dd) (fs := ?ff) ?tt ?hh ?_); (case tt => assumption); (case hh => walk_at "hp"))
  ))

local macro_rules | `(tactic| walk_at "s") => `(tactic| (first
  | (with_reducible refine r_callX ?_)
  | (with_reducible refine r_callXK ?_)
  | (with_reducible refine r_makeX ?_)
  | ((with_reducible refine r_isNR ?_))
  | ((with_reducible refine r_isNN ?_))
  | ((with_reducible refine r_notNR ?_))
  | ((with_reducible refine r_notNN ?_))
  ))
end

set_option Elab.async false
set_option linter.all false
set_option maxRecDepth 100000
set_option maxHeartbeats 8000000
set_option pp.deepTerms false
set_option pp.deepTerms.threshold 12
set_option pp.maxSteps 1200

open PySem PySem.Spec PyProof.Rows L2 RT
/-- no name -/
def BadN (K : PySem.W.Frag) (H : Hp) (v : V) : Prop := (∃ s, v = .str s ∧ NoNm s) ∨ ∀ H', Same H H' → NotStr K H' v
theorem BadN.same {K : PySem.W.Frag} {H H' : Hp} {v : V} (h : BadN K H v) (s : Same H H') : BadN K H' v := h.imp id fun h H2 s2 => h H2 (s.trans s2)
def spChkNameX (K : PySem.W.Frag) (A : Addr) : Sp := fun vs H Q E => ∃ v, vs = [v] ∧ ((∃ n, v = .str n ∧ IsName n ∧ Q .non H) ∨ (BadN K H v ∧ E (.ref A) none H))
def NoPl (K : PySem.W.Frag) (C : Addr) (H : Hp) (v : V) : Prop := ∃ t, TyE K H v t ∧ PySem.W.kitOne K t (.ref C) = some false
def spDrawingX (K : PySem.W.Frag) (C A B : Addr) : Sp := fun vs H Q E => ∃ v u, vs = [v, u] ∧ ((∃ a ts nm, v = .ref a ∧ u = .str nm ∧ PolyAt C H a ts ∧ IsName nm ∧ absT ts + ts.length ≤ 3000 ∧ ∀ q H', Same H H' → PrIs H' q (drawP nm ts) → Q (.ref q) H') ∨
  (NoPl K C H v ∧ E (.ref A) none H) ∨ (∃ a ts, v = .ref a ∧ PolyAt C H a ts ∧ BadN K H u ∧ E (.ref B) none H))
section
variable {P : Program} {w : World} {K : PySem.W.Frag} {mg : Str → Option Value} {base : Heap} {C A_AngleError A_InvalidPoly A_InvalidName A_InvalidOrders A_NoProgram A_InvalidOrder A_InvalidNumber A_InvalidProgram : Addr}

local macro_rules | `(tactic| walk_at "s") => `(tactic| (first
  | (with_reducible refine r_dnew ?_)
  | (with_reducible refine r_dget2 ?_)
  | (with_reducible refine r_dget ?_)
  | (with_reducible refine r_dput ?_)
  | (with_reducible refine r_dsetd ?_)
  | ((with_reducible refine JarAt.isD (n := ?nn) (c := ?cc) ?hh ?_); (case hh => assumption))
  ))

local macro_rules | `(tactic| walk_at "s") => `(tactic| (first
  | (with_reducible refine r_prop ?_)
  | (with_reducible refine r_meth ?_)
  | (with_reducible refine r_make ?_)
  | (with_reducible refine r_fld ?_)
  | (with_reducible refine r_sfld ?_)
  | (with_reducible refine r_iOwn ?_)
  | ((with_reducible refine u_rowsAt (mg := ?mm) (C := ?CC) (dx := ?dd) (fv := ?vv) ?tt ?hh ?_); (case tt => assumption); (case hh => walk_at "hp"))
  | ((with_reducible refine r_isPoly (mg := ?mm) (dx := ?dd) (fs := ?ff) ?tt ?hh ?_); (case tt => assumption); (case hh => walk_at "hp"))
  | ((with_reducible refine r_isPolyI (mg := ?mm) ?tt ?_); (case tt => assumption))
  | ((with_reducible refine r_polyInt (mg := ?mm) (C := ?CC) (dx := ?dd) (fs := ?ff) ?tt ?hh ?_); (case tt => assumption); (case hh => walk_at "hp"))
  ))

local macro_rules | `(tactic| walk_at "s") => `(tactic| (first
  | (with_reducible refine r_callX ?_)
  | (with_reducible refine r_callXK ?_)
  | ((with_reducible refine r_isNR ?_))
  | ((with_reducible refine r_isNN ?_))
  ))
theorem ok_check_nameX {f : Addr} {fd : FuncData} (F : Fun K "check_name" "check_name" s_check_name f fd) (X_InvalidName : OwnX K mg "InvalidName" A_InvalidName) (h_is_nameT : Has P w K mg base "is_name" 1 ["value"] (spIsNameT K)) : FnOk P w K mg base (L2.CX P w) 2 f fd ["value"] (spChkNameX K A_InvalidName) := by
  have h_is_name := h_is_nameT
  refine F.okX sc_check_name (fun vs H Q E h => ?_) (fun cdv A outer s H vs Q E hr h => ?_)
  · obtain ⟨v, rfl, _⟩ := h
    rfl
  · obtain ⟨v, rfl, h⟩ := h
    refine ⟨_, (pss_one (ps_if (pt_not (pt_val (pe_callH h_is_name (hr.mono (by first | decide | omega)) (pa_cons (pv 0) pa_nil))))
    (pss_one (ps_raise rfl (takes_of rfl rfl rfl rfl) (pmk_own PySem.F.excBase_ValueError X_InvalidName.xi X_InvalidName.g X_InvalidName.k (raises_own X_InvalidName.b X_InvalidName.t) rfl)))
    pss_nil)), ?_⟩
    walk_at "go"
    rcases h with ⟨n, rfl, hn, k⟩ | ⟨⟨n, rfl, hn⟩ | hv, k⟩
    · refine ⟨_, rfl, .inl ⟨n, rfl, hn, ?_⟩⟩
      walk_at "go"
      exact k
    · refine ⟨_, rfl, .inr (.inl ⟨n, rfl, hn, ?_⟩)⟩
      walk_at "go"
      exact k
    · refine ⟨_, rfl, .inr (.inr ⟨hv H (Same.refl H), ?_⟩)⟩
      walk_at "go"
      exact k
theorem ok_drawing {f : Addr} {fd : FuncData} (F : Fun K "drawing" "drawing" s_drawing f fd) (hx_check_poly : HasX P w K mg base "check_poly" 1 ["value"] (spChkPolyX K C A_InvalidPoly)) (hx_check_name : HasX P w K mg base "check_name" 2 ["value"] (spChkNameX K A_InvalidName)) (h_raw_drawing : Has P w K mg base "raw_drawing" 2 ["poly", "name"] (spRawDraw C)) : FnOk P w K mg base (L2.CX P w) 3 f fd ["poly", "name"] (spDrawingX K C A_InvalidPoly A_InvalidName) := by
  refine F.okX sc_drawing (fun vs H Q E h => ?_) (fun cdv A outer s H vs Q E hr h => ?_)
  · obtain ⟨v, u, rfl, _⟩ := h
    rfl
  · obtain ⟨v, u, rfl, h⟩ := h
    refine ⟨_, (pss_cons (ps_expr (pe_callXH hx_check_poly (hr.mono (by first | decide | omega)) (takes_of rfl rfl rfl rfl) (pa_cons (pv 0) pa_nil)))
    (pss_cons (ps_expr (pe_callXH hx_check_name (hr.mono (by first | decide | omega)) (takes_of rfl rfl rfl rfl) (pa_cons (pv 1) pa_nil)))
    (pss_one (ps_ret (pe_callH h_raw_drawing (hr.mono (by first | decide | omega)) (pa_cons (pv 0) (pa_cons (pv 1) pa_nil))))))), ?_⟩
    walk_at "go"
    rcases h with ⟨a, ts, nm, rfl, rfl, ha, hn, hl, k⟩ | ⟨hv, k⟩ | ⟨a, ts, rfl, ha, hu, k⟩
    · refine ⟨_, rfl, .inl ⟨a, ts, rfl, ha, ?_⟩⟩
      walk_at "go"
      refine ⟨_, rfl, .inl ⟨nm, rfl, hn, ?_⟩⟩
      walk_at "go"
      exact ⟨a, ts, nm, rfl, ha, hl, k⟩
    · exact ⟨_, rfl, .inr ⟨hv, k⟩⟩
    · refine ⟨_, rfl, .inl ⟨a, ts, rfl, ha, ?_⟩⟩
      walk_at "go"
      exact ⟨_, rfl, .inr ⟨hu, k⟩⟩
def spBCodes (K : PySem.W.Frag) (I : List Addr) : Sp := fun vs H Q _ => ∃ (p D : Addr) (bs : List Bool), vs = [.ref p] ∧ H p = some (ExV (.ref D) none p) ∧ ExcTy K D ∧ bs.length = I.length ∧ (∀ (i : Nat) (A : Addr) (b : Bool), I[i]? = some A → bs[i]? = some b → PySem.W.kitOne K (.ref D) (.ref A) = some b) ∧
  ∀ l H', H l = none → Same H H' → H' l = some (.lst (bs.map V.bl)) → Q (.ref l) H'
theorem ok_l_builds_codes {f : Addr} {fd : FuncData} (F : Fun K "_law_builds_codes" "_law_builds_codes" s_l_builds_codes f fd) (B : Bl mg) (X_InvalidPoly : OwnX K mg "InvalidPoly" A_InvalidPoly) (X_InvalidName : OwnX K mg "InvalidName" A_InvalidName) (X_InvalidOrders : OwnX K mg "InvalidOrders" A_InvalidOrders) (X_NoProgram : OwnX K mg "NoProgram" A_NoProgram) (X_InvalidOrder : OwnX K mg "InvalidOrder" A_InvalidOrder) (X_InvalidNumber : OwnX K mg "InvalidNumber" A_InvalidNumber) (X_InvalidProgram : OwnX K mg "InvalidProgram" A_InvalidProgram) :
    FnOk P w K mg base CX0 1 f fd ["_law_thing"] (spBCodes K [A_InvalidPoly, A_InvalidName, A_InvalidOrders, A_NoProgram, A_InvalidOrder, A_InvalidNumber, A_InvalidProgram]) := by
  refine F.ok sc_l_builds_codes (fun vs H Q E h => ?_) (fun cdv A outer s H vs Q E hr h => ?_)
  · obtain ⟨p, D, bs, rfl, _⟩ := h
    rfl
  · obtain ⟨p, D, bs, rfl, hp, T, hl, hk, k⟩ := h
    obtain ⟨b1, b2, b3, b4, b5, b6, b7, rfl⟩ : ∃ b1 b2 b3 b4 b5 b6 b7, bs = [b1, b2, b3, b4, b5, b6, b7] := by
      match bs, hl with
      | [b1, b2, b3, b4, b5, b6, b7], _ => exact ⟨b1, b2, b3, b4, b5, b6, b7, rfl⟩
    have k1 := hk 0 _ _ rfl rfl
    have k2 := hk 1 _ _ rfl rfl
    have k3 := hk 2 _ _ rfl rfl
    have k4 := hk 3 _ _ rfl rfl
    have k5 := hk 4 _ _ rfl rfl
    have k6 := hk 5 _ _ rfl rfl
    have k7 := hk 6 _ _ rfl rfl
    refine ⟨_, (pss_cons (ps_set (i := 1) sc_l_builds_codes.nd rfl (.inl rfl) (pe_lst (pa_cons (pe_callB (call_isiEK (K := K)) (by rfl) B.b_isinstance (by decide +kernel) (pa_cons (pv 0) (pa_cons (pe_glob (v := .ref A_InvalidPoly) rfl X_InvalidPoly.g rfl) pa_nil))) (pa_cons (pe_callB (call_isiEK (K := K)) (by rfl) B.b_isinstance (by decide +kernel) (pa_cons (pv 0) (pa_cons (pe_glob (v := .ref A_InvalidName) rfl X_InvalidName.g rfl) pa_nil))) (pa_cons (pe_callB (call_isiEK (K := K)) (by rfl) B.b_isinstance (by decide +kernel) (pa_cons (pv 0) (pa_cons (pe_glob (v := .ref A_InvalidOrders) rfl X_InvalidOrders.g rfl) pa_nil))) pa_nil)))))
    (pss_cons (ps_set (i := 1) sc_l_builds_codes.nd rfl (.inl rfl) (pe_op op_cat (pv 1) (pe_lst (pa_cons (pe_callB (call_isiEK (K := K)) (by rfl) B.b_isinstance (by decide +kernel) (pa_cons (pv 0) (pa_cons (pe_glob (v := .ref A_NoProgram) rfl X_NoProgram.g rfl) pa_nil))) (pa_cons (pe_callB (call_isiEK (K := K)) (by rfl) B.b_isinstance (by decide +kernel) (pa_cons (pv 0) (pa_cons (pe_glob (v := .ref A_InvalidOrder) rfl X_InvalidOrder.g rfl) pa_nil))) pa_nil)))))
    (pss_one (ps_ret (pe_op op_cat (pv 1) (pe_lst (pa_cons (pe_callB (call_isiEK (K := K)) (by rfl) B.b_isinstance (by decide +kernel) (pa_cons (pv 0) (pa_cons (pe_glob (v := .ref A_InvalidNumber) rfl X_InvalidNumber.g rfl) pa_nil))) (pa_cons (pe_callB (call_isiEK (K := K)) (by rfl) B.b_isinstance (by decide +kernel) (pa_cons (pv 0) (pa_cons (pe_glob (v := .ref A_InvalidProgram) rfl X_InvalidProgram.g rfl) pa_nil))) pa_nil)))))))), ?_⟩
    walk_at "go"
    refine r_isiE' (.own _) (.exv hp T) k1 ?_
    walk_at "go"
    refine r_isiE' (.own _) (.exv hp T) k2 ?_
    walk_at "go"
    refine r_isiE' (.own _) (.exv hp T) k3 ?_
    walk_at "go"
    intro l nl
    have hp1 : upd H l (.lst [.bl b1, .bl b2, .bl b3]) p = some (ExV (.ref D) none p) := h_keep hp nl
    have s1 : Same H (upd H l (.lst [.bl b1, .bl b2, .bl b3])) := Same.new0 nl
    have el : upd H l (.lst [.bl b1, .bl b2, .bl b3]) l = some (.lst [.bl b1, .bl b2, .bl b3]) := upd_same
    generalize upd H l (.lst [.bl b1, .bl b2, .bl b3]) = H1 at *
    walk_at "go"
    refine r_isiE' (.own _) (.exv hp1 T) k4 ?_
    walk_at "go"
    refine r_isiE' (.own _) (.exv hp1 T) k5 ?_
    walk_at "go"
    intro l2 nl2
    walk_at "go"
    intro l3 nl3
    have s2 : Same H1 (upd (upd H1 l2 (.lst [.bl b4, .bl b5])) l3 (.lst ([.bl b1, .bl b2, .bl b3] ++ [.bl b4, .bl b5]))) := Same.new (Same.new0 nl2) nl3
    have el3 : (upd (upd H1 l2 (.lst [.bl b4, .bl b5])) l3 (.lst ([.bl b1, .bl b2, .bl b3] ++ [.bl b4, .bl b5]))) l3 = some (.lst [.bl b1, .bl b2, .bl b3, .bl b4, .bl b5]) := upd_same
    generalize upd (upd H1 l2 (.lst [.bl b4, .bl b5])) l3 (.lst ([.bl b1, .bl b2, .bl b3] ++ [.bl b4, .bl b5])) = H2 at *
    have hp2 := s2 _ _ hp1
    walk_at "go"
    refine r_isiE' (.own _) (.exv hp2 T) k6 ?_
    walk_at "go"
    refine r_isiE' (.own _) (.exv hp2 T) k7 ?_
    walk_at "go"
    intro l4 nl4
    walk_at "go"
    intro l5 nl5
    have s3 : Same H2 (upd (upd H2 l4 (.lst [.bl b6, .bl b7])) l5 (.lst ([.bl b1, .bl b2, .bl b3, .bl b4, .bl b5] ++ [.bl b6, .bl b7]))) := Same.new (Same.new0 nl4) nl5
    exact k l5 _ (free_same ((s1.trans s2).trans (Same.new0 (o := .lst [.bl b6, .bl b7]) nl4)) nl5) ((s1.trans s2).trans s3) upd_same
/-- what is asked of a drawing that is refused -/
def spAsked (K : PySem.W.Frag) (C : Addr) : Sp := fun vs H Q _ => ∃ v u, vs = [v, u] ∧ ((NoPl K C H v ∧ ∀ l H', Same H H' → H' l = some (.lst ([true, false, false, false, false, false, false].map V.bl)) → Q (.ref l) H') ∨
  (∃ a ts, v = .ref a ∧ PolyAt C H a ts ∧ BadN K H u ∧ ∀ l H', Same H H' → H' l = some (.lst ([false, true, false, false, false, false, false].map V.bl)) → Q (.ref l) H'))
/-- the seven classes told apart -/
structure Told (K : PySem.W.Frag) (D A0 : Addr) (I : List Addr) (bs : List Bool) : Prop where
  an : PySem.W.subIn K (.ref D) (.ref A0) = some true
  ve : PySem.W.subIn K (.ref D) (.type "ValueError") = some true
  kt : ∀ (i : Nat) (A : Addr) (b : Bool), I[i]? = some A → bs[i]? = some b → PySem.W.kitOne K (.ref D) (.ref A) = some b
theorem ok_l_asked {f : Addr} {fd : FuncData} (F : Fun K "_law_asked" "_law_asked" s_l_asked f fd) (B : Bl mg) (bVE : mg "ValueError" = none) (X_AngleError : OwnX K mg "AngleError" A_AngleError) (X_InvalidPoly : OwnX K mg "InvalidPoly" A_InvalidPoly) (X_InvalidName : OwnX K mg "InvalidName" A_InvalidName)
   (T1 : Told K A_InvalidPoly A_AngleError [A_InvalidPoly, A_InvalidName, A_InvalidOrders, A_NoProgram, A_InvalidOrder, A_InvalidNumber, A_InvalidProgram] [true, false, false, false, false, false, false]) (T2 : Told K A_InvalidName A_AngleError [A_InvalidPoly, A_InvalidName, A_InvalidOrders, A_NoProgram, A_InvalidOrder, A_InvalidNumber, A_InvalidProgram] [false, true, false, false, false, false, false])
   (hxk_drawing : HasXK P w K mg base "drawing" 3 ["poly", "name"] ["name", "poly"] true (spDrawingX K C A_InvalidPoly A_InvalidName)) (h_l_builds_codes : Has P w K mg base "_law_builds_codes" 1 ["_law_thing"] (spBCodes K [A_InvalidPoly, A_InvalidName, A_InvalidOrders, A_NoProgram, A_InvalidOrder, A_InvalidNumber, A_InvalidProgram])) : FnOk P w K mg base CX0 5 f fd ["_law_poly", "_law_who"] (spAsked K C) := by
  refine F.ok sc_l_asked (fun vs H Q E h => ?_) (fun cdv A outer s H vs Q E hr h => ?_)
  · obtain ⟨v, u, rfl, _⟩ := h
    rfl
  · obtain ⟨v, u, rfl, h⟩ := h
    refine ⟨_, (pss_cons (ps_set (i := 2) sc_l_asked.nd rfl (.inl rfl) pe_non)
    (pss_cons (ps_try_held (i := 4) rfl rfl rfl sc_l_asked.nd rfl rfl ⟨rfl, by decide, .inl X_AngleError.g⟩ takes0 (fun W pn xe tk _ =>
    (pss_one (ps_set (i := 3) sc_l_asked.nd rfl (.inl rfl) (pe_callXHK hxk_drawing (hr.mono (by first | decide | omega)) tk (pk_cons (pv 1) (pk_cons (pv 0) pk_nil))))))
    (fun a oe cls d pn hz hf => (pss_one (ps_set (i := 2) sc_l_asked.nd rfl (.inl rfl) (pv 4)))))
    (pss_cons (ps_if (PW.pt (pw_or (pt_cmpR op_isNN (pv 2) pe_non (nomark _)) (pw_or1 (pt_not (pt_val (pe_callB (call_isiEK (K := K)) (by rfl) B.b_isinstance (by decide +kernel) (pa_cons (pv 2) (pa_cons (pe_bltn (v := .ty "ValueError") (by rfl) bVE (by decide +kernel) rfl) pa_nil))))))))
    (pss_one (ps_ret pe_non))
    pss_nil)
    (pss_one (ps_ret (pe_callH h_l_builds_codes (hr.mono (by first | decide | omega)) (pa_cons (pv 2) pa_nil))))))), ?_⟩
    walk_at "go"
    rcases h with ⟨hv, k⟩ | ⟨a, ts, rfl, ha, hu, k⟩
    · refine ⟨_, _, rfl, .inr (.inl ⟨hv, ⟨true, X_AngleError.catch T1.an, fun _ e ne => ?_, fun z => nomatch z⟩⟩)⟩
      walk_at "go"
      intro ne2
      have se := Same.new0 (o := ExV (.ref A_InvalidPoly) none e) ne
      have eh : upd H e (ExV (.ref A_InvalidPoly) none e) e = some (ExV (.ref A_InvalidPoly) none e) := upd_same
      walk_at "go"
      refine r_isiE' (.ty _) (.exv eh X_InvalidPoly.e) (kit_ownB T1.ve) ?_
      walk_at "go"
      refine ⟨e, _, _, rfl, eh, X_InvalidPoly.e, by rfl, T1.kt, fun l H1 nl s1 hl => ?_⟩
      exact k l H1 (se.trans s1) hl
    · refine ⟨_, _, rfl, .inr (.inr ⟨a, ts, rfl, ha, hu, ⟨true, X_AngleError.catch T2.an, fun _ e ne => ?_, fun z => nomatch z⟩⟩)⟩
      walk_at "go"
      intro ne2
      have se := Same.new0 (o := ExV (.ref A_InvalidName) none e) ne
      have eh : upd H e (ExV (.ref A_InvalidName) none e) e = some (ExV (.ref A_InvalidName) none e) := upd_same
      walk_at "go"
      refine r_isiE' (.ty _) (.exv eh X_InvalidName.e) (kit_ownB T2.ve) ?_
      walk_at "go"
      refine ⟨e, _, _, rfl, eh, X_InvalidName.e, by rfl, T2.kt, fun l H1 nl s1 hl => ?_⟩
      exact k l H1 (se.trans s1) hl
end

set_option Elab.async false
set_option linter.all false
open PySem PySem.Spec PyProof.Rows L2
theorem told7 {K : PySem.W.Frag} {D A0 a1 a2 a3 a4 a5 a6 a7 : Addr} {b1 b2 b3 b4 b5 b6 b7 : Bool} (an : PySem.W.subIn K (.ref D) (.ref A0) = some true) (ve : PySem.W.subIn K (.ref D) (.type "ValueError") = some true)
    (k1 : PySem.W.kitOne K (.ref D) (.ref a1) = some b1) (k2 : PySem.W.kitOne K (.ref D) (.ref a2) = some b2) (k3 : PySem.W.kitOne K (.ref D) (.ref a3) = some b3) (k4 : PySem.W.kitOne K (.ref D) (.ref a4) = some b4) (k5 : PySem.W.kitOne K (.ref D) (.ref a5) = some b5) (k6 : PySem.W.kitOne K (.ref D) (.ref a6) = some b6) (k7 : PySem.W.kitOne K (.ref D) (.ref a7) = some b7) :
    Told K D A0 [a1, a2, a3, a4, a5, a6, a7] [b1, b2, b3, b4, b5, b6, b7] := ⟨an, ve, fun i A b h h' => by
  match i, h, h' with
  | 0, h, h' => cases h; cases h'; exact k1
  | 1, h, h' => cases h; cases h'; exact k2
  | 2, h, h' => cases h; cases h'; exact k3
  | 3, h, h' => cases h; cases h'; exact k4
  | 4, h, h' => cases h; cases h'; exact k5
  | 5, h, h' => cases h; cases h'; exact k6
  | 6, h, h' => cases h; cases h'; exact k7
  | i + 7, h, h' => cases h⟩

set_option Elab.async false
set_option linter.all false
set_option maxRecDepth 100000
set_option maxHeartbeats 4000000

open PySem PySem.Spec PyProof.Rows L2
section
variable {P : Program} {w : World} {K : PySem.W.Frag} {mg : Str → Option Value} {base : Heap} {C : Addr}

local macro_rules | `(tactic| walk_at "s") => `(tactic| (first
  | (with_reducible refine r_dnew ?_)
  | (with_reducible refine r_dget2 ?_)
  | (with_reducible refine r_dget ?_)
  | (with_reducible refine r_dput ?_)
  | (with_reducible refine r_dsetd ?_)
  | ((with_reducible refine JarAt.isD (n := ?nn) (c := ?cc) ?hh ?_); (case hh => assumption))
  ))

local macro_rules | `(tactic| walk_at "s") => `(tactic| (first
  | (with_reducible refine r_prop ?_)
  | (with_reducible refine r_meth ?_)
  | (with_reducible refine r_make ?_)
  | (with_reducible refine r_fld ?_)
  | (with_reducible refine r_sfld ?_)
  | (with_reducible refine r_iOwn ?_)
  | ((with_reducible refine u_rowsAt (mg := ?mm) (C := ?CC) (dx := ?dd) (fv := ?vv) ?tt ?hh ?_); (case tt => assumption); (case hh => walk_at "hp"))
  | ((with_reducible refine r_isPoly (mg := ?mm) (dx := ?dd) (fs := ?ff) ?tt ?hh ?_); (case tt => assumption); (case hh => walk_at "hp"))
  | ((with_reducible refine r_isPolyI (mg := ?mm) ?tt ?_); (case tt => assumption))
  | ((with_reducible refine r_polyInt (mg := ?mm) (C := ?CC) (dx := ?dd) (fs := ?ff) ?tt ?hh ?_); (case tt => assumption); (case hh => walk_at "hp"))
  ))

end

set_option Elab.async false
set_option linter.all false
set_option maxRecDepth 100000
set_option maxHeartbeats 4000000

open PySem PySem.Spec PyProof.Rows L2
section
variable {P : Program} {w : World} {K : PySem.W.Frag} {mg : Str → Option Value} {base : Heap} {C : Addr}

local macro_rules | `(tactic| walk_at "s") => `(tactic| (first
  | (with_reducible refine r_dnew ?_)
  | (with_reducible refine r_dget2 ?_)
  | (with_reducible refine r_dget ?_)
  | (with_reducible refine r_dput ?_)
  | (with_reducible refine r_dsetd ?_)
  | ((with_reducible refine JarAt.isD (n := ?nn) (c := ?cc) ?hh ?_); (case hh => assumption))
  ))

local macro_rules | `(tactic| walk_at "s") => `(tactic| (first
  | (with_reducible refine r_prop ?_)
  | (with_reducible refine r_meth ?_)
  | (with_reducible refine r_make ?_)
  | (with_reducible refine r_fld ?_)
  | (with_reducible refine r_sfld ?_)
  | (with_reducible refine r_iOwn ?_)
  | ((with_reducible refine u_rowsAt (mg := ?mm) (C := ?CC) (dx := ?dd) (fv := ?vv) ?tt ?hh ?_); (case tt => assumption); (case hh => walk_at "hp"))
  | ((with_reducible refine r_isPoly (mg := ?mm) (dx := ?dd) (fs := ?ff) ?tt ?hh ?_); (case tt => assumption); (case hh => walk_at "hp"))
  | ((with_reducible refine r_isPolyI (mg := ?mm) ?tt ?_); (case tt => assumption))
  | ((with_reducible refine r_polyInt (mg := ?mm) (C := ?CC) (dx := ?dd) (fs := ?ff) ?tt ?hh ?_); (case tt => assumption); (case hh => walk_at "hp"))
  ))

theorem ok_l_jar_of {f : Addr} {fd : FuncData} (F : Fun K "_law_jar_of" "_law_jar_of" s_l_jar_of f fd) : FnOk P w K mg base CX0 1 f fd ["_law_rows"] spJarOf := by
  refine F.ok sc_l_jar_of (fun vs H Q E h => ?_) (fun cdv A outer s H vs Q E hr h => ?_)
  · obtain ⟨l, ts, rfl, _⟩ := h
    rfl
  · obtain ⟨l, ts, rfl, ⟨vs, hl, ht⟩, hn, k⟩ := h
    refine ⟨_, (pss_cons (ps_set (i := 1) sc_l_jar_of.nd rfl (.inl rfl) pe_dnewK)
    (pss_cons (ps_for PassesOwn.never rfl (pi_list (pv 0)) (pg_tup (by rfl) (pgs_cons (pg_name (i := 2) sc_l_jar_of.nd rfl (.inl rfl)) (pgs_cons (pg_name (i := 3) sc_l_jar_of.nd rfl (.inl rfl)) pgs_nil)))
    (pss_one (ps_dput (hu_of hr) (pv 1) (pv 2) (pe_op op_add (pe_dget2 (hu_of hr) (pv 1) (pv 2) pe_int ⟨rfl, rfl, rfl, rfl⟩) (pv 3)) rfl)))
    (pss_one (ps_ret (pv 1))))), ?_⟩
    walk_at "go"
    intro d nd
    walk_at "go"
    have hvl := ht.length
    refine u_forL (.of (h_keep hl nd)) (fun i σ H' => ∃ (c : Int → Int) (y2 y3 : Option V), σ = [some (.ref l), some (.ref d), y2, y3] ∧ Same H H' ∧ JarAt H' d i c ∧ (∀ k, c k = cof (ts.take i) k) ∧ i ≤ vs.length) ?_ ?_ ?_ ?_
    · exact ⟨_, _, _, rfl, Same.new0 nd, .new, fun k => rfl, Nat.zero_le _⟩
    · rintro i σ H' _ ⟨c, y2, y3, rfl, sm, _⟩
      exact .of (sm _ _ hl)
    · rintro i x σ H' hx ⟨c, y2, y3, rfl, sm, hj, hc, hi⟩
      obtain ⟨b, p, rfl, hp, hb⟩ := ht.at i hx
      have hi2 := (List.getElem?_eq_some_iff.mp hx).1
      have hb' := sm _ _ hb
      walk_at "go"
      obtain ⟨o, g1, g2⟩ := hj.dget0 p.1
      refine ⟨o, g1, ?_⟩
      rw [g2]
      walk_at "go"
      obtain ⟨H4, p1, b1, f1, j1⟩ := hj.dput (k := p.1) (v := c p.1 + p.2) (by omega)
      refine ⟨d, H4, rfl, p1, _, _, _, rfl, Same.but2 sm nd b1, j1, fun k => ?_, hi2⟩
      have et : ts.take (i + 1) = ts.take i ++ [p] := by rw [List.take_succ, hp]; rfl
      rw [et, cof_app, ← hc]
      unfold addAt
      rw [cof, cof]
      by_cases e : k = p.1
      · subst e; rw [if_pos rfl, if_pos rfl]; omega
      · rw [if_neg e, if_neg (fun h => e h.symm)]; omega
    · rintro σ H' ⟨c, y2, y3, rfl, sm, hj, hc, hi⟩
      rw [List.take_of_length_le (by omega)] at hc
      walk_at "go"
      rw [hvl] at hj
      exact k d H' nd sm (hj.ext hc)
end

set_option Elab.async false
set_option linter.all false
set_option maxRecDepth 100000
set_option maxHeartbeats 4000000

open PySem PySem.Spec PyProof.Rows L2
section
variable {P : Program} {w : World} {K : PySem.W.Frag} {mg : Str → Option Value} {base : Heap} {C : Addr}

local macro_rules | `(tactic| walk_at "s") => `(tactic| (first
  | (with_reducible refine r_dnew ?_)
  | (with_reducible refine r_dget2 ?_)
  | (with_reducible refine r_dget ?_)
  | (with_reducible refine r_dput ?_)
  | (with_reducible refine r_dsetd ?_)
  | ((with_reducible refine JarAt.isD (n := ?nn) (c := ?cc) ?hh ?_); (case hh => assumption))
  ))

local macro_rules | `(tactic| walk_at "s") => `(tactic| (first
  | (with_reducible refine r_prop ?_)
  | (with_reducible refine r_meth ?_)
  | (with_reducible refine r_make ?_)
  | (with_reducible refine r_fld ?_)
  | (with_reducible refine r_sfld ?_)
  | (with_reducible refine r_iOwn ?_)
  | ((with_reducible refine u_rowsAt (mg := ?mm) (C := ?CC) (dx := ?dd) (fv := ?vv) ?tt ?hh ?_); (case tt => assumption); (case hh => walk_at "hp"))
  | ((with_reducible refine r_isPoly (mg := ?mm) (dx := ?dd) (fs := ?ff) ?tt ?hh ?_); (case tt => assumption); (case hh => walk_at "hp"))
  | ((with_reducible refine r_isPolyI (mg := ?mm) ?tt ?_); (case tt => assumption))
  | ((with_reducible refine r_polyInt (mg := ?mm) (C := ?CC) (dx := ?dd) (fs := ?ff) ?tt ?hh ?_); (case tt => assumption); (case hh => walk_at "hp"))
  ))

theorem ok_l_terms_of {f : Addr} {fd : FuncData} (F : Fun K "_law_terms_of" "_law_terms_of" s_l_terms_of f fd) (bS : mg "sorted" = none) : FnOk P w K mg base CX0 1 f fd ["_law_jar"] spTerms := by
  refine F.ok sc_l_terms_of (fun vs H Q E h => ?_) (fun cdv A outer s H vs Q E hr h => ?_)
  · obtain ⟨a, n, c, rfl, _⟩ := h
    rfl
  · obtain ⟨a, n, c, rfl, hj, hn, k⟩ := h
    refine ⟨_, (pss_one (ps_ret (pe_lc (own := [("_law_deg", 1)]) rfl sc_l_terms_of.nd (pi_list (pe_callB call_sortedDA (by rfl) bS (by decide +kernel) (pa_cons (pv 0) pa_nil))) (blkOk_by (N := ["_law_jar", "_law_deg"]) (sc := defScope s_l_terms_of) (by decide +kernel)) (fun _ _ _ _ _ => (pg_name (i := 1) sc_l_terms_of.nd rfl (.inl rfl))) (fun _ _ _ _ _ => pts_one (pt_cmpR op_ne (pe_dget (hu_of hr) (pv 0) (pv 1) (fun _ _ => rfl)) pe_int (nomark _))) (fun _ _ _ _ _ => (pe_tup (pa_cons (pv 1) (pa_cons (pe_dget (hu_of hr) (pv 0) (pv 1) (fun _ _ => rfl)) pa_nil))))))), ?_⟩
    walk_at "go"
    refine rSortDJ hj fun ys p hys hz hlen hget np => ?_
    have hj1 := hj.keep (o := .lst (ys.map V.int)) np
    refine u_lcL (.of upd_same) (fun D i acc H' => (TermsL H' acc (((ys.take i).filter fun k => decide (c k ≠ 0)).map fun k => (k, c k)) ∧ i ≤ ys.length) ∧ Same (upd H p (.lst (ys.map V.int))) H') ?_ ?_ ?_ ?_
    · exact fun D hD => ⟨⟨rfl, Nat.zero_le _⟩, Same.new0 hD⟩
    · exact fun D i acc H' _ _ ⟨_, s1⟩ => .of (s1 _ _ upd_same)
    · rintro D i x acc H' hD hx hacc ⟨⟨ht, hi⟩, s1⟩
      rw [List.getElem?_map] at hx
      cases hy : ys[i]? with
      | none => rw [hy] at hx; cases hx
      | some y =>
        rw [hy] at hx
        cases hx
        obtain ⟨hi2, ey⟩ := List.getElem?_eq_some_iff.mp hy
        have hj2 := hj1.same s1
        have et : ys.take (i + 1) = ys.take i ++ [y] := by rw [List.take_succ, hy]; rfl
        have hm2 := (hget y (List.mem_of_getElem? hy)).same ((Same.new0 np).trans s1)
        walk_at "go"
        refine ⟨rfl, ?_⟩
        walk_at "go"
        refine ⟨a, _, rfl, hj2.dget hm2, ?_⟩
        walk_at "go"
        refine r_ite (fun hb => ?_) (fun hb => ?_)
        · walk_at "go"
          refine ⟨a, _, rfl, hj2.dget hm2, ?_⟩
          walk_at "go"
          intro t nt
          have nz : decide (c y ≠ 0) = true := by simpa using hb
          have al : acc.length ≤ i := by
            rw [ht.length, List.length_map]
            exact Nat.le_trans (List.length_filter_le _ _) (by rw [List.length_take]; omega)
          refine u_push (h_keep hacc nt) (by omega) ⟨⟨?_, hi2⟩, Same.put (Same.new s1 nt) hD⟩
          have t1 : Tk H' (upd (upd H' t (.tup [.int y, .int (c y)])) D (.lst (acc ++ [.ref t]))) := ((Tk.refl _).new nt).lst (h_keep hacc nt)
          rw [et, List.filter_append, List.map_append, List.filter_cons_of_pos (p := fun k => decide (c k ≠ 0)) nz]
          exact (ht.tk t1).app (.one ((upd_ne (ne_of_none hacc nt).symm).trans upd_same))
        · refine u_skip hacc ⟨⟨?_, hi2⟩, s1⟩
          have nz : ¬ decide (c y ≠ 0) = true := by simpa using hb
          rw [et, List.filter_append, List.filter_cons_of_neg (p := fun k => decide (c k ≠ 0)) nz, List.filter_nil, List.append_nil]
          exact ht
    · rintro D acc H' hD hacc ⟨⟨ht, hi⟩, s1⟩
      walk_at "go"
      rw [List.take_of_length_le (by simp)] at ht
      refine k D _ H' ?_ ((Same.new0 np).trans s1) (canon_of hys c) (fun j => ?_) ?_ ⟨_, hacc, ht⟩
      · exact free_upd hD
      · rw [cof_of hys]
        by_cases hm : j ∈ ys
        · rw [if_pos hm]
        · rw [if_neg hm, hz j hm]
      · rw [List.length_map]
        exact Nat.le_trans (List.length_filter_le _ _) hlen
end

set_option Elab.async false
set_option linter.all false
set_option maxRecDepth 100000
set_option maxHeartbeats 4000000

open PySem PySem.Spec PyProof.Rows L2
section
variable {P : Program} {w : World} {K : PySem.W.Frag} {mg : Str → Option Value} {base : Heap} {C : Addr}

local macro_rules | `(tactic| walk_at "s") => `(tactic| (first
  | (with_reducible refine r_dnew ?_)
  | (with_reducible refine r_dget2 ?_)
  | (with_reducible refine r_dget ?_)
  | (with_reducible refine r_dput ?_)
  | (with_reducible refine r_dsetd ?_)
  | ((with_reducible refine JarAt.isD (n := ?nn) (c := ?cc) ?hh ?_); (case hh => assumption))
  ))

local macro_rules | `(tactic| walk_at "s") => `(tactic| (first
  | (with_reducible refine r_prop ?_)
  | (with_reducible refine r_meth ?_)
  | (with_reducible refine r_make ?_)
  | (with_reducible refine r_fld ?_)
  | (with_reducible refine r_sfld ?_)
  | (with_reducible refine r_iOwn ?_)
  | ((with_reducible refine u_rowsAt (mg := ?mm) (C := ?CC) (dx := ?dd) (fv := ?vv) ?tt ?hh ?_); (case tt => assumption); (case hh => walk_at "hp"))
  | ((with_reducible refine r_isPoly (mg := ?mm) (dx := ?dd) (fs := ?ff) ?tt ?hh ?_); (case tt => assumption); (case hh => walk_at "hp"))
  | ((with_reducible refine r_isPolyI (mg := ?mm) ?tt ?_); (case tt => assumption))
  | ((with_reducible refine r_polyInt (mg := ?mm) (C := ?CC) (dx := ?dd) (fs := ?ff) ?tt ?hh ?_); (case tt => assumption); (case hh => walk_at "hp"))
  ))

theorem ok_l_is_poly {f : Addr} {fd : FuncData} (F : Fun K "_law_is_poly" "_law_is_poly" s_l_is_poly f fd) (B : Bl mg) (G_Poly : PolyT K mg C) (h_l_is_int : Has P w K mg base "_law_is_int" 1 ["_law_thing"] spIsInt) (h_l_terms_of : Has P w K mg base "_law_terms_of" 1 ["_law_jar"] spTerms)
   (hp_Poly_terms : HasP P w K mg base C "terms" 1 ["self"] (spGetTerms C)) (hp_Poly_span : HasP P w K mg base C "span" 1 ["self"] (spGetSpan C)) (hm_Poly___len__ : HasM P w K mg base C "__len__" 1 ["self"] (spPLen C)) (hs_Poly___iter__ : HasS P w K mg base C "__iter__" 1 ["self"] (spIter K C "rows")) :
   FnOk P w K mg base CX0 4 f fd ["_law_found", "_law_jar"] (spIsPoly C) := by
  refine F.ok sc_l_is_poly (fun vs H Q E h => ?_) (fun cdv A outer s H vs Q E hr h => ?_)
  · obtain ⟨a, ts, d, n, c, rfl, _⟩ := h
    rfl
  · obtain ⟨a, ts, d, n, c, rfl, ha, hj, hcof, hn, htn, k⟩ := h
    obtain ⟨dx, r, vs, g1, hr', ht, hc⟩ := id ha
    refine ⟨_, (pss_cons (ps_if (pt_not (pt_val (pe_callB (call_isiKK (K := K)) (by rfl) B.b_isinstance (by decide +kernel) (pa_cons (pv 0) (pa_cons (pe_glob (v := .ref C) rfl G_Poly.mgC rfl) pa_nil)))))
    (pss_one (ps_ret pe_bl))
    pss_nil)
    (pss_cons (ps_set (i := 2) sc_l_is_poly.nd rfl (.inl rfl) (pe_propH G_Poly.cl hp_Poly_terms (hr.mono (by first | decide | omega)) (pv 0)))
    (pss_cons (ps_if (PW.pt (pw_or (pt_not (pt_val (pe_callB (call_isiKK (K := K)) (by rfl) B.b_isinstance (by decide +kernel) (pa_cons (pv 2) (pa_cons (pe_bltn (v := .ty "list") (by rfl) B.b_list (by decide +kernel) rfl) pa_nil))))) (pw_or1 (pt_not (pt_val (pe_callB (call_allK (K := K)) (by rfl) B.b_all (by decide +kernel) (pa_cons (pe_lc (own := [("_law_row", 5)]) rfl sc_l_is_poly.nd (pi_list (pv 2)) (blkOk_by (N := ["_law_found", "_law_jar", "_law_told", "_law_due", "_law_wide", "_law_row"]) (sc := defScope s_l_is_poly) (by decide +kernel)) (fun _ _ _ _ _ => (pg_name (i := 5) sc_l_is_poly.nd rfl (.inl rfl))) (fun _ _ _ _ _ => pts_nil) (fun _ _ _ _ _ => (pe_and (pe_callB (call_isiKK (K := K)) (by rfl) B.b_isinstance (by decide +kernel) (pa_cons (pv 5) (pa_cons (pe_bltn (v := .ty "tuple") (by rfl) B.b_tuple (by decide +kernel) rfl) pa_nil))) (pe_one (pe_cmpR op_eq (pe_callB (call_lenK (K := K)) (by rfl) B.b_len PySem.boot_len (pa_cons (pv 5) pa_nil)) pe_int (nomark _)))))) pa_nil)))))))
    (pss_one (ps_ret pe_bl))
    pss_nil)
    (pss_cons (ps_if (pt_not (pt_val (pe_callB (call_allK (K := K)) (by rfl) B.b_all (by decide +kernel) (pa_cons (pe_lc (own := [("_law_row", 5)]) rfl sc_l_is_poly.nd (pi_list (pv 2)) (blkOk_by (N := ["_law_found", "_law_jar", "_law_told", "_law_due", "_law_wide", "_law_row"]) (sc := defScope s_l_is_poly) (by decide +kernel)) (fun _ _ _ _ _ => (pg_name (i := 5) sc_l_is_poly.nd rfl (.inl rfl))) (fun _ _ _ _ _ => pts_nil) (fun _ _ _ _ _ => (pe_and (pe_callH h_l_is_int (hr.mono (by first | decide | omega)) (pa_cons (pe_ix (ix_tupK (K := K)) (pv 5) pe_int (fun _ _ => rfl)) pa_nil)) (pe_one (pe_callH h_l_is_int (hr.mono (by first | decide | omega)) (pa_cons (pe_ix (ix_tupK (K := K)) (pv 5) pe_int (fun _ _ => rfl)) pa_nil)))))) pa_nil))))
    (pss_one (ps_ret pe_bl))
    pss_nil)
    (pss_cons (ps_set (i := 3) sc_l_is_poly.nd rfl (.inl rfl) (pe_callH h_l_terms_of (hr.mono (by first | decide | omega)) (pa_cons (pv 1) pa_nil)))
    (pss_cons (ps_set (i := 4) sc_l_is_poly.nd rfl (.inl rfl) pe_int)
    (pss_cutM (ps_if (pt_cmpR (op_neDK (K := K) hr.units) (pv 3) (pe_lst pa_nil) (nomark _))
    (pss_one (ps_set (i := 4) sc_l_is_poly.nd rfl (.inl rfl) (pe_op op_sub (pe_ix (ix_tupK (K := K)) (pe_ix (ix_listK (K := K)) (pv 3) (pe_un un_neg pe_int) (fun _ _ => rfl)) pe_int (fun _ _ => rfl)) (pe_ix (ix_tupK (K := K)) (pe_ix (ix_listK (K := K)) (pv 3) pe_int (fun _ _ => rfl)) pe_int (fun _ _ => rfl)))))
    pss_nil)
    (pss_cons (ps_if (PW.pt (pw_or (pt_cmpR (op_neDK (K := K) hr.units) (pv 2) (pv 3) (nomark _)) (pw_or (pt_not (pt_val (pe_callH h_l_is_int (hr.mono (by first | decide | omega)) (pa_cons (pe_propH G_Poly.cl hp_Poly_span (hr.mono (by first | decide | omega)) (pv 0)) pa_nil)))) (pw_or1 (pt_cmpR op_ne (pe_propH G_Poly.cl hp_Poly_span (hr.mono (by first | decide | omega)) (pv 0)) (pv 4) (nomark _))))))
    (pss_one (ps_ret pe_bl))
    pss_nil)
    (pss_cons (ps_expr (pe_bm PySem.F.plainAttrs_list PySem.F.slot_list_append PySem.F.type_list_append mt_append (pv 2) (pa_cons (pe_tup (pa_cons pe_int (pa_cons pe_int pa_nil))) pa_nil)))
    (pss_one (ps_ret (pe_and (pe_cmpR op_eq (pe_callB (call_lenOwn hm_Poly___len__ (hr.mono (by first | decide | omega))) (by rfl) B.b_len PySem.boot_len (pa_cons (pv 0) pa_nil)) (pe_callB (call_lenK (K := K)) (by rfl) B.b_len PySem.boot_len (pa_cons (pv 3) pa_nil)) (nomark _)) (pe_and (pe_cmpR (op_eqDK (K := K) hr.units) (pe_lc (own := [("_law_row", 5)]) rfl sc_l_is_poly.nd (pi_ownK (K := K) (pv 0) hs_Poly___iter__ (hr.mono (by first | decide | omega))) (blkOk_by (N := ["_law_found", "_law_jar", "_law_told", "_law_due", "_law_wide", "_law_row"]) (sc := defScope s_l_is_poly) (by decide +kernel)) (fun _ _ _ _ _ => (pg_name (i := 5) sc_l_is_poly.nd rfl (.inl rfl))) (fun _ _ _ _ _ => pts_nil) (fun _ _ _ _ _ => (pv 5))) (pv 3) (nomark _)) (pe_one (pe_cmpR (op_eqDK (K := K) hr.units) (pe_propH G_Poly.cl hp_Poly_terms (hr.mono (by first | decide | omega)) (pv 0)) (pv 3) (nomark _)))))))))))))))), ?_⟩
    walk_at "go"
    refine ⟨a, dx, _, rfl, g1, a, ts, rfl, ha, fun l H1 nl s1 htl => ?_⟩
    obtain ⟨ws, hlw, hw⟩ := id htl
    have hwl := hw.length
    walk_at "go"
    refine u_lcL (.of hlw) (fun D i acc H' => (acc = (List.replicate i true).map V.bl ∧ i ≤ ws.length) ∧ Same H1 H') ?_ ?_ ?_ ?_
    · exact fun D hD => ⟨⟨rfl, by omega⟩, Same.new0 hD⟩
    · exact fun D i acc H' _ _ ⟨_, s⟩ => .of (s _ _ hlw)
    · rintro D i v acc H' hD hv hacc ⟨⟨ea, _⟩, sm⟩
      obtain ⟨b, p, rfl, hp, hb⟩ := hw.at i hv
      have hi2 := (List.getElem?_eq_some_iff.mp hv).1
      have hb' := sm _ _ hb
      walk_at "go"
      refine ⟨rfl, ?_⟩
      walk_at "go"
      have al : acc.length = i := by rw [ea]; simp
      refine u_push hacc (by omega) ⟨⟨?_, by omega⟩, Same.put sm hD⟩
      rw [ea, List.replicate_succ', List.map_append]
      rfl
    · rintro D acc H2 hD hacc ⟨⟨ea, _⟩, s2⟩
      rw [ea] at hacc
      walk_at "go"
      refine r_all (SqL.of hacc) ?_
      rw [show ((List.replicate ws.length true).all id) = true by simp]
      walk_at "go"
      have hlw2 := s2 _ _ hlw
      have hw2 := hw.tk (Tk.same s2)
      refine u_lcL (.of hlw2) (fun D i acc H' => (acc = (List.replicate i true).map V.bl ∧ i ≤ ws.length) ∧ Same H2 H') ?_ ?_ ?_ ?_
      · exact fun D hD => ⟨⟨rfl, by omega⟩, Same.new0 hD⟩
      · exact fun D i acc H' _ _ ⟨_, s⟩ => .of (s _ _ hlw2)
      · rintro D i v acc H' hD hv hacc ⟨⟨ea, _⟩, sm⟩
        obtain ⟨b, p, rfl, hp, hb⟩ := hw2.at i hv
        have hi2 := (List.getElem?_eq_some_iff.mp hv).1
        have hb' := sm _ _ hb
        walk_at "go"
        refine ⟨rfl, ?_⟩
        walk_at "go"
        refine ⟨_, rfl, ?_⟩
        walk_at "go"
        refine ⟨_, rfl, ?_⟩
        have al : acc.length = i := by rw [ea]; simp
        refine u_push hacc (by omega) ⟨⟨?_, by omega⟩, Same.put sm hD⟩
        rw [ea, List.replicate_succ', List.map_append]
        rfl
      · rintro D acc H3 hD hacc ⟨⟨ea, _⟩, s3⟩
        rw [ea] at hacc
        walk_at "go"
        refine r_all (SqL.of hacc) ?_
        rw [show ((List.replicate ws.length true).all id) = true by simp]
        walk_at "go"
        have sC : Same H H3 := s1.trans (s2.trans s3)
        refine ⟨d, n, c, rfl, hj.same sC, hn, fun l2 us H4 nl2 s4 hus hcu hul ht2 => ?_⟩
        have eus : us = ts := hus.ext hc fun k => (hcu k).trans (hcof k).symm
        subst eus
        obtain ⟨ys, hly, hy⟩ := id ht2
        have hyl := hy.length
        have htl4 : TermsAt H4 l us := htl.same (s2.trans (s3.trans s4))
        have sD : Same H H4 := sC.trans s4
        walk_at "go"
        refine r_cut (fun σ' H' => Same H4 H' ∧ σ' = [some (.ref a), some (.ref d), some (.ref l), some (.ref l2), some (.int (spanOf us)), none]) ?_ ?_
        · walk_at "go"
          intro e0 ne0
          refine r_neT (ht2.same (Same.new0 ne0)) (.none upd_same) ?_
          have s5 : Same H4 (upd H4 e0 (.lst [])) := Same.new0 ne0
          generalize upd H4 e0 (.lst []) = H5 at *
          have hly5 := s5 _ _ hly
          have hy5 := hy.tk (Tk.same s5)
          walk_at "go"
          refine r_iteN (fun hne => ?_) (fun hne => ?_)
          · obtain ⟨b, b', p, q, a0, h0', a1, h1', e0, e1⟩ := last_of hy5 hne
            walk_at "go"
            refine r_ixL (.of hly5) a1 ?_
            walk_at "go"
            refine r_ixL (.of hly5) a0 ?_
            walk_at "go"
            exact ⟨s5, by unfold spanOf; rw [e0, e1]; rfl⟩
          · subst hne
            walk_at "go"
            exact ⟨s5, rfl⟩
        · rintro σ' H5 ⟨s5, rfl⟩
          have hly5 := s5 _ _ hly
          have hy5 := hy.tk (Tk.same s5)
          have htl5 := htl4.same s5
          have ht5 := ht2.same s5
          have ha5 := ha.same (sD.trans s5)
          have g15 := s5 _ _ (sD _ _ g1)
          walk_at "go"
          refine r_neT htl5 ht5 ?_
          rw [decide_eq_true rfl]
          walk_at "go"
          refine ⟨a, dx, _, rfl, g15, a, us, rfl, ha5, ?_⟩
          walk_at "go"
          refine ⟨_, rfl, ?_⟩
          walk_at "go"
          obtain ⟨zs, hlz, hz⟩ := id htl5
          have hzl := hz.length
          refine ⟨a, dx, _, rfl, g15, a, us, rfl, ha5, ?_⟩
          walk_at "go"
          intro t nt
          walk_at "go"
          have nll2 : l2 ≠ l := by
            rintro rfl
            have : H3 l2 ≠ none := by rw [s3 _ _ (s2 _ _ hlw)]; simp
            exact this nl2
          have s6 : ∀ b o, b ≠ l → H5 b = some o → (upd (upd H5 t (.tup [.int 0, .int 5])) l (.lst (zs ++ [.ref t]))) b = some o := fun b o nb e => (upd_ne nb).trans (h_keep e nt)
          have t6 : Tk H5 (upd (upd H5 t (.tup [.int 0, .int 5])) l (.lst (zs ++ [.ref t]))) := ((Tk.refl _).new nt).lst (h_keep hlz nt)
          have s60 : Same H (upd (upd H5 t (.tup [.int 0, .int 5])) l (.lst (zs ++ [.ref t]))) := Same.put (Same.new (sD.trans s5) nt) nl
          generalize upd (upd H5 t (.tup [.int 0, .int 5])) l (.lst (zs ++ [.ref t])) = H6 at *
          have ha6 := ha.same s60
          obtain ⟨dx6, r6, vs6, g6, hr6, hv6, _⟩ := id ha6
          have hl6 := s6 _ _ nll2 hly5
          have ht6 : TermsAt H6 l2 us := ⟨ys, hl6, hy5.tk t6⟩
          refine ⟨a, dx6, _, rfl, g6, a, us, rfl, ha6, us.length, rfl, by omega, ?_⟩
          walk_at "go"
          have hvl6 := hv6.length
          refine ⟨a, dx6, _, r6, vs6, rfl, g6, rows_look, .of hr6, fun D hD => lc_tup (xs := vs6) (fun i H' => ∃ acc, H' D = some (.lst acc) ∧ acc = vs6.take i ∧ i ≤ vs6.length ∧ Same H6 H') ⟨[], upd_same, rfl, Nat.zero_le _, Same.new0 hD⟩ (fun i H' _ ⟨_, _, _, _, s⟩ => .of (s _ _ hr6)) (fun i x H' hx ⟨acc, hacc, ea, hi, s⟩ => ?_) fun H' ⟨acc, hacc, ea, hi, s⟩ => ?_⟩
          · have hi2 := (List.getElem?_eq_some_iff.mp hx).1
            walk_at "go"
            refine ⟨rfl, ?_⟩
            walk_at "go"
            refine ⟨acc, hacc, Nat.lt_of_le_of_lt (m := 90000) (by rw [ea, List.length_take]; omega) (by decide), _, upd_same, ?_, hi2, Same.put s hD⟩
            rw [ea, List.take_succ, hx]; rfl
          · rw [List.take_of_length_le (Nat.le_refl _)] at ea
            subst ea
            walk_at "go"
            have ht7 := ht6.same s
            refine r_eqT (ts := us) ⟨_, hacc, hv6.tk (Tk.same s)⟩ ht7 ?_
            rw [decide_eq_true rfl]
            walk_at "go"
            refine ⟨a, dx6, _, rfl, s _ _ g6, a, us, rfl, ha6.same s, fun l8 H8 nl8 s8 ht8 => ?_⟩
            walk_at "go"
            refine r_eqT ht8 (ht7.same s8) ?_
            rw [decide_eq_true rfl]
            walk_at "go"
            exact k _ (s60.trans (s.trans s8))
end

set_option Elab.async false
set_option linter.all false
set_option maxRecDepth 100000
set_option maxHeartbeats 4000000

open PySem PySem.Spec PyProof.Rows L2
section
variable {P : Program} {w : World} {K : PySem.W.Frag} {mg : Str → Option Value} {base : Heap} {C : Addr}

local macro_rules | `(tactic| walk_at "s") => `(tactic| (first
  | (with_reducible refine r_dnew ?_)
  | (with_reducible refine r_dget2 ?_)
  | (with_reducible refine r_dget ?_)
  | (with_reducible refine r_dput ?_)
  | (with_reducible refine r_dsetd ?_)
  | ((with_reducible refine JarAt.isD (n := ?nn) (c := ?cc) ?hh ?_); (case hh => assumption))
  ))

local macro_rules | `(tactic| walk_at "s") => `(tactic| (first
  | (with_reducible refine r_prop ?_)
  | (with_reducible refine r_meth ?_)
  | (with_reducible refine r_make ?_)
  | (with_reducible refine r_fld ?_)
  | (with_reducible refine r_sfld ?_)
  | (with_reducible refine r_iOwn ?_)
  | ((with_reducible refine u_rowsAt (mg := ?mm) (C := ?CC) (dx := ?dd) (fv := ?vv) ?tt ?hh ?_); (case tt => assumption); (case hh => walk_at "hp"))
  | ((with_reducible refine r_isPoly (mg := ?mm) (dx := ?dd) (fs := ?ff) ?tt ?hh ?_); (case tt => assumption); (case hh => walk_at "hp"))
  | ((with_reducible refine r_isPolyI (mg := ?mm) ?tt ?_); (case tt => assumption))
  | ((with_reducible refine r_polyInt (mg := ?mm) (C := ?CC) (dx := ?dd) (fs := ?ff) ?tt ?hh ?_); (case tt => assumption); (case hh => walk_at "hp"))
  ))

local macro_rules | `(tactic| walk_at "s") => `(tactic| (first
  | (with_reducible refine r_iKeys ?_)
  | (with_reducible refine rl_disp ?_)
  | (with_reducible refine rl_pc ?_)
  | (with_reducible refine rl_pn ?_)
  ))
theorem ok_l_moved {f : Addr} {fd : FuncData} (F : Fun K "_law_moved" "_law_moved" s_l_moved f fd) (h_l_jar_of : Has P w K mg base "_law_jar_of" 1 ["_law_rows"] spJarOf) : FnOk P w K mg base CX0 2 f fd ["_law_jar", "_law_shift"] spMoved := by
  refine F.ok sc_l_moved (fun vs H Q E h => ?_) (fun cdv A outer s H vs Q E hr h => ?_)
  · obtain ⟨a, n, c, sh, rfl, _⟩ := h
    rfl
  · obtain ⟨j, n, c1, sh, rfl, hj, hn, k⟩ := h
    refine ⟨_, (pss_one (ps_ret (pe_callH h_l_jar_of (hr.mono (by first | decide | omega)) (pa_cons (pe_lock (pe_lc (own := [("_law_deg", 2)]) rfl sc_l_moved.nd (pi_keys (pv 0)) (blkOk_by (N := ["_law_jar", "_law_shift", "_law_deg"]) (sc := defScope s_l_moved) (by decide +kernel)) (fun _ _ _ _ _ => (pg_name (i := 2) sc_l_moved.nd rfl (.inl rfl))) (fun _ _ _ _ _ => pts_nil) (fun _ _ _ _ _ => (pe_tup (pa_cons (pe_op op_add (pv 2) (pv 1)) (pa_cons (pe_dget (hu_of hr) (pv 0) (pv 2) (fun _ _ => rfl)) pa_nil)))))) pa_nil)))), ?_⟩
    walk_at "go"
    obtain ⟨kvs, ks, ej, hk, ek, kl, kc, kf⟩ := hj.list
    refine ⟨j, .dK kvs, ej, trivial, fun od => ?_⟩
    walk_at "go"
    refine u_lcK upd_same ek (fun D i acc H2 => (TermsL H2 acc (shiftT sh ((ks.take i).map fun q => (q, c1 q))) ∧ i ≤ ks.length) ∧ Same (upd H j (.frz od (.dK kvs))) H2) ?_ ?_ ?_ ?_
    · exact fun D hD => ⟨⟨rfl, Nat.zero_le _⟩, Same.new0 hD⟩
    · exact fun D i acc H2 _ _ ⟨_, s1⟩ => s1 _ _ upd_same
    · rintro D i q acc H2 hD hx hacc ⟨⟨ht2, hi0⟩, s1⟩
      have hi2 := (List.getElem?_eq_some_iff.mp hx).1
      have et : (ks.take (i + 1)).map (fun q => (q, c1 q)) = (ks.take i).map (fun q => (q, c1 q)) ++ [(q, c1 q)] := by rw [List.take_succ, hx, List.map_append]; rfl
      have hd : DGet H2 j (.int q) (some (.int (cfK kvs q))) := JarFz.dget (s1 _ _ upd_same) hk (by rw [ek]; exact List.mem_map.mpr ⟨q, List.mem_of_getElem? hx, rfl⟩)
      have al : acc.length ≤ i := by
        rw [ht2.length, shiftT, List.length_map, List.length_map, List.length_take]; omega
      walk_at "go"
      refine ⟨rfl, ?_⟩
      walk_at "go"
      refine ⟨j, _, rfl, hd, ?_⟩
      walk_at "go"
      intro t nt
      refine u_push (h_keep hacc nt) (by omega) ⟨⟨?_, hi2⟩, Same.put (Same.new s1 nt) hD⟩
      have t1 : Tk H2 (upd (upd H2 t (.tup [.int (q + sh), .int (cfK kvs q)])) D (.lst (acc ++ [.ref t]))) := ((Tk.refl _).new nt).lst (h_keep hacc nt)
      rw [et, shiftT, List.map_append]
      exact (ht2.tk t1).app (.one (((upd_ne (ne_of_none hacc nt).symm).trans upd_same).trans (by rw [kc])))
    · rintro D acc H2 hD hacc ⟨⟨ht2, hi0⟩, s2⟩
      rw [List.take_of_length_le (Nat.le_refl _)] at ht2
      have efz := s2 _ _ (upd_same (H := H) (a := j) (o := .frz od (.dK kvs)))
      refine ⟨efz, ?_⟩
      have s3 := unlock_same ej s2
      have hD3 : upd H2 j (.dK kvs) D = some (.lst acc) := (upd_ne (fun z => by subst z; rw [efz] at hacc; cases hacc)).trans hacc
      have ht3 := ht2.tk (unlock_tk (u := .dK kvs) efz)
      generalize upd H2 j (.dK kvs) = H3 at *
      walk_at "go"
      refine ⟨D, _, rfl, ⟨acc, hD3, ht3⟩, by rw [shiftT, List.length_map, List.length_map]; omega, fun fl H12 nfl s12 hf => ?_⟩
      walk_at "go"
      refine k fl H12 (free_same s3 nfl) (s3.trans s12) ((hf.mono (by rw [shiftT, List.length_map, List.length_map]; exact kl)).ext fun q => by rw [cof_shift, kf])
/-- the key at a turn -/
theorem key_at {kvs : List (Key × V)} {ks : List Int} {i : Nat} {kk : Key} {v : V} (ek : kvs.map (·.1) = ks.map Sum.inl) (h : kvs[i]? = some (kk, v)) : ∃ q, ks[i]? = some q ∧ kk = .inl q := by
  have h1 : (kvs.map (·.1))[i]? = some kk := by rw [List.getElem?_map, h]; rfl
  rw [ek, List.getElem?_map] at h1
  cases e : ks[i]? with
  | none => rw [e] at h1; cases h1
  | some q => rw [e] at h1; exact ⟨q, rfl, (Option.some.inj h1).symm⟩
theorem ok_l_times {f : Addr} {fd : FuncData} (F : Fun K "_law_times" "_law_times" s_l_times f fd) : FnOk P w K mg base CX0 1 f fd ["_law_one", "_law_two"] spTimes := by
  refine F.ok sc_l_times (fun vs H Q E h => ?_) (fun cdv A outer s H vs Q E hr h => ?_)
  · obtain ⟨a, b, n, m, c, d, rfl, _⟩ := h
    rfl
  · obtain ⟨a, b, n, m, c, d, rfl, ha, hb, hn, smc, smd, k⟩ := h
    obtain ⟨kvs1, ks1, e1, hk1, ek1, kl1, kc1, kf1⟩ := ha.list
    obtain ⟨kvs2, ks2, e2, hk2, ek2, kl2, kc2, kf2⟩ := hb.list
    have len1 : kvs1.length = ks1.length := by have := congrArg List.length ek1; simpa using this
    have len2 : kvs2.length = ks2.length := by have := congrArg List.length ek2; simpa using this
    by_cases hab : a = b
    · subst hab
      obtain rfl : kvs1 = kvs2 := by rw [e1] at e2; cases e2; rfl
      refine ⟨_, (pss_cons (ps_set (i := 2) sc_l_times.nd rfl (.inl rfl) pe_dnewK)
    (pss_cons (ps_lock (ps_for PassesOwn.never rfl (pi_keys (pv 0)) (pg_name (i := 3) sc_l_times.nd rfl (.inl rfl))
    (pss_one (ps_for PassesOwn.never rfl (pi_keys (pv 1)) (pg_name (i := 4) sc_l_times.nd rfl (.inl rfl))
    (pss_one (ps_if (PW.pt (pw_and (pt_cmpR op_ne (pe_dget (hu_of hr) (pv 0) (pv 3) (fun _ _ => rfl)) pe_int (nomark _)) (pw_and1 (pt_cmpR op_ne (pe_dget (hu_of hr) (pv 1) (pv 4) (fun _ _ => rfl)) pe_int (nomark _)))))
    (pss_one (ps_dput (hu_of hr) (pv 2) (pe_op op_add (pv 3) (pv 4)) (pe_op op_add (pe_dget2 (hu_of hr) (pv 2) (pe_op op_add (pv 3) (pv 4)) pe_int ⟨rfl, rfl, rfl, rfl⟩) (pe_op op_mulW (pe_dget (hu_of hr) (pv 0) (pv 3) (fun _ _ => rfl)) (pe_dget (hu_of hr) (pv 1) (pv 4) (fun _ _ => rfl)))) rfl))
    pss_nil))))))
    (pss_one (ps_ret (pv 2))))), ?_⟩
      walk_at "go"
      intro p np
      walk_at "go"
      have pa : p ≠ a := (ne_of_none e1 np).symm
      refine ⟨a, .dK kvs1, h_keep e1 np, trivial, fun od1 => ?_⟩
      walk_at "go"
      refine ⟨a, od1, rfl, .inl ⟨kvs1, upd_same, ?_⟩⟩
      refine u_keys (fun i σ H' => ∃ y3 y4 : Option V, σ = [some (.ref a), some (.ref a), some (.ref p), y3, y4] ∧ H' a = some (.frz od1 (.dK kvs1)) ∧ (∀ x o, x ≠ a → x ≠ p → H x = some o → H' x = some o) ∧ JarAt H' p (i * m) (fun z => cmul ((ks1.take i).map fun q => (q, c q)) d z) ∧ i ≤ kvs1.length) ?_ ?_ ?_ ?_
      · refine ⟨_, _, rfl, upd_same, fun x o xa xp h => (upd_ne xa).trans ((upd_ne xp).trans h), ?_, Nat.zero_le _⟩
        exact (JarAt.new.upd pa).mono (Nat.zero_le _)
      · rintro i σ H' ⟨y3, y4, rfl, ha', _⟩
        exact ha'
      · rintro i kk v σ H' hkv ⟨y3, y4, rfl, ha', sm, hj', hi⟩
        have hi2 := (List.getElem?_eq_some_iff.mp hkv).1
        obtain ⟨q, hq, rfl⟩ := key_at ek1 hkv
        show gName 3 (.int q) _ _ _
        walk_at "go"
        refine ⟨a, od1, rfl, .inl ⟨kvs1, ha', ?_⟩⟩
        refine u_keys (fun j σ H2 => ∃ y4 : Option V, σ = [some (.ref a), some (.ref a), some (.ref p), some (.int q), y4] ∧ H2 a = some (.frz od1 (.dK kvs1)) ∧ (∀ x o, x ≠ a → x ≠ p → H x = some o → H2 x = some o) ∧ JarAt H2 p (i * m + j) (fun z => cmul ((ks1.take i).map fun q => (q, c q)) d z + c q * cof ((ks2.take j).map fun r => (r, d r)) (z - q)) ∧ j ≤ kvs1.length) ?_ ?_ ?_ ?_
        · refine ⟨_, rfl, ha', sm, ?_, Nat.zero_le _⟩
          exact hj'.ext fun z => by rw [List.take_zero, List.map_nil, cof]; simp
        · rintro j σ H2 ⟨y4, rfl, ha2, _⟩
          exact ha2
        · rintro j kk v2 σ H2 hkv2 ⟨y4, rfl, ha2, sm2, hj2, hjl⟩
          have hj3 := (List.getElem?_eq_some_iff.mp hkv2).1
          have jmn : i * m + j ≤ 1000000 := by have := Nat.mul_le_mul_right m (by omega : i + 1 ≤ n); have : (i + 1) * m = i * m + m := Nat.succ_mul i m; omega
          obtain ⟨r, hr2, rfl⟩ := key_at ek2 hkv2
          have d1 : DGet H2 a (.int q) (some (.int (cfK kvs1 q))) := JarFz.dget ha2 hk1 (by rw [ek1]; exact List.mem_map.mpr ⟨q, List.mem_of_getElem? hq, rfl⟩)
          have d2 : DGet H2 a (.int r) (some (.int (cfK kvs1 r))) := JarFz.dget ha2 hk2 (by rw [ek2]; exact List.mem_map.mpr ⟨r, List.mem_of_getElem? hr2, rfl⟩)
          rw [kc1] at d1
          rw [kc2] at d2
          show gName 4 (.int r) _ _ _
          walk_at "go"
          refine ⟨a, _, rfl, d1, ?_⟩
          walk_at "go"
          have et2 : (ks2.take (j + 1)).map (fun r => (r, d r)) = (ks2.take j).map (fun r => (r, d r)) ++ [(r, d r)] := by rw [List.take_succ, hr2, List.map_append]; rfl
          have stp : ∀ z, cmul ((ks1.take i).map fun q => (q, c q)) d z + c q * cof ((ks2.take (j + 1)).map fun r => (r, d r)) (z - q) = (cmul ((ks1.take i).map fun q => (q, c q)) d z + c q * cof ((ks2.take j).map fun r => (r, d r)) (z - q)) + (if q + r = z then c q * d r else 0) := fun z => by
            rw [et2, cof_app, cof, cof, Int.mul_add]
            show _ + (_ + c q * ((if r = z - q then d r else 0) + 0)) = _
            by_cases hz : q + r = z
            · rw [if_pos hz, if_pos (by omega), Int.add_zero, Int.add_assoc]
            · rw [if_neg hz, if_neg (by omega)]; simp
          have idle : c q * d r = 0 → JarAt H2 p (i * m + (j + 1)) (fun z => cmul ((ks1.take i).map fun q => (q, c q)) d z + c q * cof ((ks2.take (j + 1)).map fun r => (r, d r)) (z - q)) := fun h0 => (hj2.mono (by omega)).ext fun z => by
            rw [stp z, h0]; simp
          refine r_iteN (fun q0 => ?_) (fun q0 => ?_)
          · walk_at "go"
            refine ⟨a, _, rfl, d2, ?_⟩
            walk_at "go"
            refine r_iteN (fun q1 => ?_) (fun q1 => ?_)
            · walk_at "go"
              obtain ⟨o, g1, g2⟩ := hj2.dget0 (q + r)
              refine ⟨o, g1, ?_⟩
              rw [g2]
              have msg : CMulW (c q) (d r) := mulW_of (smc q) (smd r)
              walk_at "go"
              refine ⟨a, _, rfl, d1, ?_⟩
              walk_at "go"
              refine ⟨a, _, rfl, d2, ?_⟩
              walk_at "go"
              obtain ⟨H4, p1, b1, f1, j1⟩ := hj2.dput (k := q + r) (v := (cmul ((ks1.take i).map fun q => (q, c q)) d (q + r) + c q * cof ((ks2.take j).map fun r => (r, d r)) (q + r - q)) + c q * d r) jmn
              refine ⟨p, H4, rfl, p1, _, rfl, b1 _ _ pa.symm ha2, fun x o xa xj ex => b1 _ _ xj (sm2 x o xa xj ex), (j1.mono (by omega)).ext fun z => ?_, hj3⟩
              rw [stp z]
              unfold addAt
              by_cases hz : q + r = z
              · subst hz; simp
              · simp [hz, Ne.symm hz]
            · walk_at "go"
              exact ⟨_, rfl, ha2, sm2, idle (by rw [q1, Int.mul_zero]), hj3⟩
          · walk_at "go"
            exact ⟨_, rfl, ha2, sm2, idle (by rw [q0, Int.zero_mul]), hj3⟩
        · rintro σ H2 ⟨y4, rfl, ha2, sm2, hj2, hjl⟩
          refine ⟨_, _, rfl, ha2, sm2, ?_, hi2⟩
          · refine (hj2.mono ?_).ext fun z => ?_
            · have := Nat.le_trans (Nat.add_le_add_left (by omega : kvs1.length ≤ m) (i * m)) (Nat.le_of_eq (Nat.succ_mul i m).symm); omega
            · rw [List.take_of_length_le (by omega : ks2.length ≤ kvs1.length), kf2, List.take_succ, hq, List.map_append, cmul_app]
              show _ = _ + cmul [(q, c q)] d z
              rw [cmul, cmul]; simp
      · rintro σ H' ⟨y3, y4, rfl, ha', sm, hj', hi⟩
        refine ⟨ha', ?_⟩
        rw [List.take_of_length_le (by omega)] at hj'
        walk_at "go"
        refine k p _ np (fun x o h => ?_) (((hj'.upd pa).mono (Nat.mul_le_mul_right _ (by omega))).ext fun z => ?_)
        · by_cases xa : x = a
          · subst xa; rw [upd_same, ← e1, h]
          · exact (upd_ne xa).trans (sm x o xa (ne_of_none h np) h)
        · rw [mulF_of kf1 kf2]
          exact (cmul_extr _ z kf2).symm
    · refine ⟨_, (pss_cons (ps_set (i := 2) sc_l_times.nd rfl (.inl rfl) pe_dnewK)
    (pss_cons (ps_lock (ps_for PassesOwn.never rfl (pi_keys (pv 0)) (pg_name (i := 3) sc_l_times.nd rfl (.inl rfl))
    (pss_one (ps_lock (ps_for PassesOwn.never rfl (pi_keys (pv 1)) (pg_name (i := 4) sc_l_times.nd rfl (.inl rfl))
    (pss_one (ps_if (PW.pt (pw_and (pt_cmpR op_ne (pe_dget (hu_of hr) (pv 0) (pv 3) (fun _ _ => rfl)) pe_int (nomark _)) (pw_and1 (pt_cmpR op_ne (pe_dget (hu_of hr) (pv 1) (pv 4) (fun _ _ => rfl)) pe_int (nomark _)))))
    (pss_one (ps_dput (hu_of hr) (pv 2) (pe_op op_add (pv 3) (pv 4)) (pe_op op_add (pe_dget2 (hu_of hr) (pv 2) (pe_op op_add (pv 3) (pv 4)) pe_int ⟨rfl, rfl, rfl, rfl⟩) (pe_op op_mulW (pe_dget (hu_of hr) (pv 0) (pv 3) (fun _ _ => rfl)) (pe_dget (hu_of hr) (pv 1) (pv 4) (fun _ _ => rfl)))) rfl))
    pss_nil)))))))
    (pss_one (ps_ret (pv 2))))), ?_⟩
      walk_at "go"
      intro p np
      walk_at "go"
      have pa : p ≠ a := (ne_of_none e1 np).symm
      have pb : p ≠ b := (ne_of_none e2 np).symm
      refine ⟨a, .dK kvs1, h_keep e1 np, trivial, fun od1 => ?_⟩
      walk_at "go"
      refine ⟨a, od1, rfl, .inl ⟨kvs1, upd_same, ?_⟩⟩
      refine u_keys (fun i σ H' => ∃ y3 y4 : Option V, σ = [some (.ref a), some (.ref b), some (.ref p), y3, y4] ∧ H' a = some (.frz od1 (.dK kvs1)) ∧ (∀ x o, x ≠ a → x ≠ p → H x = some o → H' x = some o) ∧ JarAt H' p (i * m) (fun z => cmul ((ks1.take i).map fun q => (q, c q)) d z) ∧ i ≤ kvs1.length) ?_ ?_ ?_ ?_
      · refine ⟨_, _, rfl, upd_same, fun x o xa xp h => (upd_ne xa).trans ((upd_ne xp).trans h), ?_, Nat.zero_le _⟩
        exact (JarAt.new.upd pa).mono (Nat.zero_le _)
      · rintro i σ H' ⟨y3, y4, rfl, ha', _⟩
        exact ha'
      · rintro i kk v σ H' hkv ⟨y3, y4, rfl, ha', sm, hj', hi⟩
        have hi2 := (List.getElem?_eq_some_iff.mp hkv).1
        obtain ⟨q, hq, rfl⟩ := key_at ek1 hkv
        show gName 3 (.int q) _ _ _
        walk_at "go"
        have eb : H' b = some (.dK kvs2) := sm b _ (fun z => hab z.symm) pb.symm e2
        refine ⟨b, .dK kvs2, eb, trivial, fun od2 => ?_⟩
        walk_at "go"
        refine ⟨b, od2, rfl, .inl ⟨kvs2, upd_same, ?_⟩⟩
        refine u_keys (fun j σ H2 => ∃ y4 : Option V, σ = [some (.ref a), some (.ref b), some (.ref p), some (.int q), y4] ∧ H2 b = some (.frz od2 (.dK kvs2)) ∧ H2 a = some (.frz od1 (.dK kvs1)) ∧ (∀ x o, x ≠ a → x ≠ b → x ≠ p → H x = some o → H2 x = some o) ∧ JarAt H2 p (i * m + j) (fun z => cmul ((ks1.take i).map fun q => (q, c q)) d z + c q * cof ((ks2.take j).map fun r => (r, d r)) (z - q)) ∧ j ≤ kvs2.length) ?_ ?_ ?_ ?_
        · refine ⟨_, rfl, upd_same, (upd_ne hab).trans ha', fun x o xa xb xp h => (upd_ne xb).trans (sm x o xa xp h), ?_, Nat.zero_le _⟩
          exact (hj'.upd pb).ext fun z => by rw [List.take_zero, List.map_nil, cof]; simp
        · rintro j σ H2 ⟨y4, rfl, hb2, _⟩
          exact hb2
        · rintro j kk v2 σ H2 hkv2 ⟨y4, rfl, hb2, ha2, sm2, hj2, hjl⟩
          have hj3 := (List.getElem?_eq_some_iff.mp hkv2).1
          have jmn : i * m + j ≤ 1000000 := by have := Nat.mul_le_mul_right m (by omega : i + 1 ≤ n); have : (i + 1) * m = i * m + m := Nat.succ_mul i m; omega
          obtain ⟨r, hr2, rfl⟩ := key_at ek2 hkv2
          have d1 : DGet H2 a (.int q) (some (.int (cfK kvs1 q))) := JarFz.dget ha2 hk1 (by rw [ek1]; exact List.mem_map.mpr ⟨q, List.mem_of_getElem? hq, rfl⟩)
          have d2 : DGet H2 b (.int r) (some (.int (cfK kvs2 r))) := JarFz.dget hb2 hk2 (by rw [ek2]; exact List.mem_map.mpr ⟨r, List.mem_of_getElem? hr2, rfl⟩)
          rw [kc1] at d1
          rw [kc2] at d2
          show gName 4 (.int r) _ _ _
          walk_at "go"
          refine ⟨a, _, rfl, d1, ?_⟩
          walk_at "go"
          have et2 : (ks2.take (j + 1)).map (fun r => (r, d r)) = (ks2.take j).map (fun r => (r, d r)) ++ [(r, d r)] := by rw [List.take_succ, hr2, List.map_append]; rfl
          have stp : ∀ z, cmul ((ks1.take i).map fun q => (q, c q)) d z + c q * cof ((ks2.take (j + 1)).map fun r => (r, d r)) (z - q) = (cmul ((ks1.take i).map fun q => (q, c q)) d z + c q * cof ((ks2.take j).map fun r => (r, d r)) (z - q)) + (if q + r = z then c q * d r else 0) := fun z => by
            rw [et2, cof_app, cof, cof, Int.mul_add]
            show _ + (_ + c q * ((if r = z - q then d r else 0) + 0)) = _
            by_cases hz : q + r = z
            · rw [if_pos hz, if_pos (by omega), Int.add_zero, Int.add_assoc]
            · rw [if_neg hz, if_neg (by omega)]; simp
          have idle : c q * d r = 0 → JarAt H2 p (i * m + (j + 1)) (fun z => cmul ((ks1.take i).map fun q => (q, c q)) d z + c q * cof ((ks2.take (j + 1)).map fun r => (r, d r)) (z - q)) := fun h0 => (hj2.mono (by omega)).ext fun z => by
            rw [stp z, h0]; simp
          refine r_iteN (fun q0 => ?_) (fun q0 => ?_)
          · walk_at "go"
            refine ⟨b, _, rfl, d2, ?_⟩
            walk_at "go"
            refine r_iteN (fun q1 => ?_) (fun q1 => ?_)
            · walk_at "go"
              obtain ⟨o, g1, g2⟩ := hj2.dget0 (q + r)
              refine ⟨o, g1, ?_⟩
              rw [g2]
              have msg : CMulW (c q) (d r) := mulW_of (smc q) (smd r)
              walk_at "go"
              refine ⟨a, _, rfl, d1, ?_⟩
              walk_at "go"
              refine ⟨b, _, rfl, d2, ?_⟩
              walk_at "go"
              obtain ⟨H4, p1, b1, f1, j1⟩ := hj2.dput (k := q + r) (v := (cmul ((ks1.take i).map fun q => (q, c q)) d (q + r) + c q * cof ((ks2.take j).map fun r => (r, d r)) (q + r - q)) + c q * d r) jmn
              refine ⟨p, H4, rfl, p1, _, rfl, b1 _ _ pb.symm hb2, b1 _ _ pa.symm ha2, fun x o xa xb xj ex => b1 _ _ xj (sm2 x o xa xb xj ex), (j1.mono (by omega)).ext fun z => ?_, hj3⟩
              rw [stp z]
              unfold addAt
              by_cases hz : q + r = z
              · subst hz; simp
              · simp [hz, Ne.symm hz]
            · walk_at "go"
              exact ⟨_, rfl, hb2, ha2, sm2, idle (by rw [q1, Int.mul_zero]), hj3⟩
          · walk_at "go"
            exact ⟨_, rfl, hb2, ha2, sm2, idle (by rw [q0, Int.zero_mul]), hj3⟩
        · rintro σ H2 ⟨y4, rfl, hb2, ha2, sm2, hj2, hjl⟩
          refine ⟨hb2, _, _, rfl, (upd_ne hab).trans ha2, fun x o xa xp h => ?_, ?_, hi2⟩
          · by_cases xb : x = b
            · subst xb; rw [upd_same, ← e2, h]
            · exact (upd_ne xb).trans (sm2 x o xa xb xp h)
          · refine ((hj2.upd pb).mono ?_).ext fun z => ?_
            · have := Nat.le_trans (Nat.add_le_add_left (by omega : kvs2.length ≤ m) (i * m)) (Nat.le_of_eq (Nat.succ_mul i m).symm); omega
            · rw [List.take_of_length_le (by omega : ks2.length ≤ kvs2.length), kf2, List.take_succ, hq, List.map_append, cmul_app]
              show _ = _ + cmul [(q, c q)] d z
              rw [cmul, cmul]; simp
      · rintro σ H' ⟨y3, y4, rfl, ha', sm, hj', hi⟩
        refine ⟨ha', ?_⟩
        rw [List.take_of_length_le (by omega)] at hj'
        walk_at "go"
        refine k p _ np (fun x o h => ?_) (((hj'.upd pa).mono (Nat.mul_le_mul_right _ (by omega))).ext fun z => ?_)
        · by_cases xa : x = a
          · subst xa; rw [upd_same, ← e1, h]
          · exact (upd_ne xa).trans (sm x o xa (ne_of_none h np) h)
        · rw [mulF_of kf1 kf2]
          exact (cmul_extr _ z kf2).symm
end


set_option Elab.async false
set_option linter.all false
set_option maxRecDepth 100000
set_option maxHeartbeats 4000000

open PySem PySem.Spec PyProof.Rows L2
section
variable {P : Program} {w : World} {K : PySem.W.Frag} {mg : Str → Option Value} {base : Heap} {C : Addr}

local macro_rules | `(tactic| walk_at "s") => `(tactic| (first
  | (with_reducible refine r_dnew ?_)
  | (with_reducible refine r_dget2 ?_)
  | (with_reducible refine r_dget ?_)
  | (with_reducible refine r_dput ?_)
  | (with_reducible refine r_dsetd ?_)
  | ((with_reducible refine JarAt.isD (n := ?nn) (c := ?cc) ?hh ?_); (case hh => assumption))
  ))

local macro_rules | `(tactic| walk_at "s") => `(tactic| (first
  | (with_reducible refine r_prop ?_)
  | (with_reducible refine r_meth ?_)
  | (with_reducible refine r_make ?_)
  | (with_reducible refine r_fld ?_)
  | (with_reducible refine r_sfld ?_)
  | (with_reducible refine r_iOwn ?_)
  | ((with_reducible refine u_rowsAt (mg := ?mm) (C := ?CC) (dx := ?dd) (fv := ?vv) ?tt ?hh ?_); (case tt => assumption); (case hh => walk_at "hp"))
  | ((with_reducible refine r_isPoly (mg := ?mm) (dx := ?dd) (fs := ?ff) ?tt ?hh ?_); (case tt => assumption); (case hh => walk_at "hp"))
  | ((with_reducible refine r_isPolyI (mg := ?mm) ?tt ?_); (case tt => assumption))
  | ((with_reducible refine r_polyInt (mg := ?mm) (C := ?CC) (dx := ?dd) (fs := ?ff) ?tt ?hh ?_); (case tt => assumption); (case hh => walk_at "hp"))
  ))

local macro_rules | `(tactic| walk_at "s") => `(tactic| (with_reducible refine r_iKeys ?_))
theorem r_revL {te : TE} {σ : L2.St} {H : Hp} {Q : VK} (q : te σ H fun x H1 => ∃ a xs, x = .ref a ∧ SqL K H1 a xs ∧ ∀ p, H1 p = none → Q (.ref p) (upd H1 p (.lst xs.reverse))) : tRevL K te σ H Q := q
theorem r_revLL {H : Hp} {a : Addr} {xs : List V} {R : List V → Addr → Prop} (h : H a = some (.lst xs)) (q : ∀ p, H p = none → R xs p) : ∃ (b : Addr) (ys : List V), V.ref a = .ref b ∧ SqL K H b ys ∧ ∀ p, H p = none → R ys p := ⟨a, xs, rfl, .of h, q⟩
theorem pe_revLK {X : Cx} {e : Expr} {te : TE} {k : Nat} {p1 p2 p3 pos : Pos} (he : PE X e te) (h : X.K = K := by rfl) : PE X (.Subscript e (.Slice none none (some (.UnaryOp .USub (.Constant (.int 1) k p1) p2)) p3) pos) (tRevL K te) := by subst h; exact pe_revL he
local macro_rules | `(tactic| walk_at "s") => `(tactic| (with_reducible refine r_revL ?_))
theorem rows_no {α : Type} {v : α} {m : Str} (h : (m == ("rows" : Str)) = false) : List.lookup m [(("rows" : Str), v)] = none := by rw [List.lookup, h]; rfl
theorem ok_l_made {f : Addr} {fd : FuncData} (F : Fun K "_law_made" "_law_made" s_l_made f fd) (B : Bl mg) (G_Poly : PolyT K mg C) (hc_Poly : HasC P w K mg base "Poly" C 3 ["self", "terms"] (spInit C)) (h_l_pick : Has P w K mg base "_law_pick" 1 ["_law_bag", "_law_many"] spPick)
   (h_l_terms_of : Has P w K mg base "_law_terms_of" 1 ["_law_jar"] spTerms) (hm_Poly___add__ : HasM P w K mg base C "__add__" 6 ["self", "other"] (spPoly2 C fun c d k => c k + d k)) (hm_Poly___neg__ : HasM P w K mg base C "__neg__" 6 ["self"] (spPoly1 C fun ts k => -cof ts k))
   (hm_Poly_mirrored : HasM P w K mg base C "mirrored" 5 ["self"] (spPoly1 C fun ts k => cof ts (-k))) : FnOk P w K mg base CX0 7 f fd ["_law_bag", "_law_jar"] (spMade C) := by
  refine F.ok sc_l_made (fun vs H Q E h => ?_) (fun cdv A outer s H vs Q E hr h => ?_)
  · obtain ⟨a, d, n, c, rfl, _⟩ := h
    rfl
  · obtain ⟨a, d, n, c, rfl, ba, hj, hn, k⟩ := h
    refine ⟨_, (pss_cons (ps_set (i := 2) sc_l_made.nd rfl (.inl rfl) (pe_callH h_l_terms_of (hr.mono (by first | decide | omega)) (pa_cons (pv 1) pa_nil)))
    (pss_cons (ps_set (i := 3) sc_l_made.nd rfl (.inl rfl) (pe_callH h_l_pick (hr.mono (by first | decide | omega)) (pa_cons (pv 0) (pa_cons pe_int pa_nil))))
    (pss_cons (ps_set (i := 4) sc_l_made.nd rfl (.inl rfl) (pe_callH h_l_pick (hr.mono (by first | decide | omega)) (pa_cons (pv 0) (pa_cons (pe_op op_add (pe_callB (call_lenK (K := K)) (by rfl) B.b_len PySem.boot_len (pa_cons (pv 2) pa_nil)) pe_int) pa_nil))))
    (pss_cons (ps_if (pt_cmpR op_eq (pv 3) pe_int (nomark _))
    (pss_one (ps_ret (pe_makeH hc_Poly (hr.mono (by first | decide | omega)) (pa_cons (pe_revLK (K := K) (pv 2)) pa_nil))))
    pss_nil)
    (pss_cons (ps_if (pt_cmpR op_eq (pv 3) pe_int (nomark _))
    (pss_cons (ps_set (i := 5) sc_l_made.nd rfl (.inl rfl) (pe_op op_cat (pe_slice sl_list (pv 2) (po_some (pv 4)) po_none) (pe_slice sl_list (pv 2) po_none (po_some (pv 4)))))
    (pss_cutM (ps_if (pt_cmpR (op_neDK (K := K) hr.units) (pv 5) (pe_lst pa_nil) (nomark _))
    (pss_one (ps_set (i := 5) sc_l_made.nd rfl (.inl rfl) (pe_op op_cat (pe_op op_cat (pe_lst (pa_cons (pe_tup (pa_cons (pe_ix (ix_tupK (K := K)) (pe_ix (ix_listK (K := K)) (pv 5) pe_int (fun _ _ => rfl)) pe_int (fun _ _ => rfl)) (pa_cons (pe_op op_sub (pe_ix (ix_tupK (K := K)) (pe_ix (ix_listK (K := K)) (pv 5) pe_int (fun _ _ => rfl)) pe_int (fun _ _ => rfl)) pe_int) pa_nil))) pa_nil)) (pe_slice sl_list (pv 5) (po_some pe_int) po_none)) (pe_lst (pa_cons (pe_tup (pa_cons (pe_ix (ix_tupK (K := K)) (pe_ix (ix_listK (K := K)) (pv 5) pe_int (fun _ _ => rfl)) pe_int (fun _ _ => rfl)) (pa_cons pe_int pa_nil))) pa_nil)))))
    pss_nil)
    (pss_one (ps_ret (pe_makeH hc_Poly (hr.mono (by first | decide | omega)) (pa_cons (pv 5) pa_nil))))))
    pss_nil)
    (pss_cons (ps_if (pt_cmpR op_eq (pv 3) pe_int (nomark _))
    (pss_one (ps_ret (pe_op (op_own2 (op := .Add) hm_Poly___add__ G_Poly.self (hr.mono (by first | decide | omega))) (pe_makeH hc_Poly (hr.mono (by first | decide | omega)) (pa_cons (pe_slice sl_list (pv 2) (po_some (pv 4)) po_none) pa_nil)) (pe_makeH hc_Poly (hr.mono (by first | decide | omega)) (pa_cons (pe_slice sl_list (pv 2) po_none (po_some (pv 4))) pa_nil)))))
    pss_nil)
    (pss_cons (ps_if (pt_cmpR op_eq (pv 3) pe_int (nomark _))
    (pss_one (ps_ret (pe_un (un_negOwn hm_Poly___neg__ (hr.mono (by first | decide | omega))) (pe_makeH hc_Poly (hr.mono (by first | decide | omega)) (pa_cons (pe_lc (g := (gTup K 2 (gCons (gName 6) (gCons (gName 7) gNil)))) (own := [("_law_deg", 6), ("_law_coef", 7)]) rfl sc_l_made.nd (pi_list (pe_revLK (K := K) (pv 2))) (blkOk_by (N := ["_law_bag", "_law_jar", "_law_rows", "_law_way", "_law_at", "_law_turned", "_law_deg", "_law_coef"]) (sc := defScope s_l_made) (by decide +kernel)) (fun _ _ _ _ _ => (pg_tupK (K := K) rfl (pgs_cons (pg_name (i := 6) sc_l_made.nd rfl (.inl rfl)) (pgs_cons (pg_name (i := 7) sc_l_made.nd rfl (.inl rfl)) pgs_nil)))) (fun _ _ _ _ _ => pts_nil) (fun _ _ _ _ _ => (pe_tup (pa_cons (pv 6) (pa_cons (pe_un un_neg (pv 7)) pa_nil))))) pa_nil)))))
    pss_nil)
    (pss_cons (ps_if (pt_cmpR op_eq (pv 3) pe_int (nomark _))
    (pss_one (ps_ret (pe_meth0H G_Poly.cl hm_Poly_mirrored (hr.mono (by first | decide | omega)) (pe_makeH hc_Poly (hr.mono (by first | decide | omega)) (pa_cons (pe_lc (g := (gTup K 2 (gCons (gName 6) (gCons (gName 7) gNil)))) (own := [("_law_deg", 6), ("_law_coef", 7)]) rfl sc_l_made.nd (pi_list (pv 2)) (blkOk_by (N := ["_law_bag", "_law_jar", "_law_rows", "_law_way", "_law_at", "_law_turned", "_law_deg", "_law_coef"]) (sc := defScope s_l_made) (by decide +kernel)) (fun _ _ _ _ _ => (pg_tupK (K := K) rfl (pgs_cons (pg_name (i := 6) sc_l_made.nd rfl (.inl rfl)) (pgs_cons (pg_name (i := 7) sc_l_made.nd rfl (.inl rfl)) pgs_nil)))) (fun _ _ _ _ _ => pts_nil) (fun _ _ _ _ _ => (pe_tup (pa_cons (pe_un un_neg (pv 6)) (pa_cons (pv 7) pa_nil))))) pa_nil)))))
    pss_nil)
    (pss_one (ps_ret (pe_makeH hc_Poly (hr.mono (by first | decide | omega)) (pa_cons (pv 2) pa_nil)))))))))))), ?_⟩
    walk_at "go"
    refine ⟨d, n, c, rfl, hj, by omega, fun l us H1 nl s1 hus hcu hul htl => ?_⟩
    have b1 := ba.same s1
    have nla : l ≠ a := ba.ne nl
    walk_at "go"
    refine u_pick b1 (by decide) (by decide) fun wy H2 w0 w1 bu2 b2 => ?_
    obtain ⟨vs, hlv, hv⟩ := htl
    have hlv := bu2 _ _ nla hlv
    have hv := hv.tk (Tk.but bu2 b1)
    have hvl := hv.length
    have sB : But a H H2 := (Same.but s1 a).trans bu2
    walk_at "go"
    refine u_pick b2 (by omega) (by omega) fun at_ H3 a0 a1 bu3 b3 => ?_
    have hlv3 := bu3 _ _ nla hlv
    have hv3 := hv.tk (Tk.but bu3 b2)
    have sB3 : But a H H3 := sB.trans bu3
    have cut1 : cutV vs none (some at_) = vs.take at_.toNat := cut_takeI a0
    have cut2 : cutV vs (some at_) none = vs.drop at_.toNat := cut_dropI a0
    have fin : ∀ (b : Addr) (ts : Terms) (H5 : Hp), Same H3 H5 → PolyAt C H5 b ts → (∀ k, cof ts k = cof us k) → ts.length ≤ n + 2 → Q (.ref b) H5 := fun b ts H5 s5 hp hcp hl =>
      k b ts H5 (sB3.trans (Same.but s5 a)) (b3.same s5) hp (fun j => (hcp j).trans (hcu j)) hl
    walk_at "go"
    refine r_iteD (fun h1 => ?_) (fun h1 => ?_)
    · walk_at "go"
      refine r_revLL hlv3 fun l4 nl4 => ?_
      walk_at "go"
      refine u_poly (l := l4) (ts := us.reverse) ⟨_, upd_same, (hv3.tk ((Tk.refl _).new nl4)).reverse⟩ (by rw [List.length_reverse]; omega) fun b ps H5 nb s5 hb hcb hlb => ?_
      exact fin b ps H5 ((Same.new0 nl4).trans s5) hb (fun j => (hcb j).trans (cof_rev us j)) (by rw [List.length_reverse] at hlb; omega)
    · walk_at "go"
      refine r_iteD (fun h2 => ?_) (fun h2 => ?_)
      · walk_at "go"
        intro l4 nl4
        walk_at "go"
        intro l5 nl5
        refine r_cat (h_keep upd_same nl5) upd_same (by rw [cut1, cut2, List.length_take, List.length_drop]; omega) fun l6 nl6 => ?_
        have s6 : Same H3 (upd (upd (upd H3 l4 (.lst (cutV vs (some at_) none))) l5 (.lst (cutV vs none (some at_)))) l6 (.lst (cutV vs (some at_) none ++ cutV vs none (some at_)))) := Same.new (Same.new (Same.new0 nl4) nl5) nl6
        have h6 : (upd (upd (upd H3 l4 (.lst (cutV vs (some at_) none))) l5 (.lst (cutV vs none (some at_)))) l6 (.lst (cutV vs (some at_) none ++ cutV vs none (some at_)))) l6 = some (.lst (vs.drop at_.toNat ++ vs.take at_.toNat)) := by rw [upd_same, cut1, cut2]
        generalize upd (upd (upd H3 l4 (.lst (cutV vs (some at_) none))) l5 (.lst (cutV vs none (some at_)))) l6 (.lst (cutV vs (some at_) none ++ cutV vs none (some at_))) = H6 at *
        have hv6 := hv3.tk (Tk.same s6)
        have hT : TermsL H6 (vs.drop at_.toNat ++ vs.take at_.toNat) (us.drop at_.toNat ++ us.take at_.toNat) := (hv6.drop _).app (hv6.take _)
        have hTc : ∀ j, cof (us.drop at_.toNat ++ us.take at_.toNat) j = cof us j := fun j => by rw [cof_app, Int.add_comm, cof_cut]
        have hTl : (us.drop at_.toNat ++ us.take at_.toNat).length = us.length := by rw [List.length_append, List.length_drop, List.length_take]; omega
        generalize us.drop at_.toNat ++ us.take at_.toNat = us6 at *
        generalize vs.drop at_.toNat ++ vs.take at_.toNat = vs6 at *
        have hv6l := hT.length
        walk_at "go"
        refine r_cut (fun σ' H' => ∃ (l7 : Addr) (ts7 : Terms), σ' = [some (.ref a), some (.ref d), some (.ref l), some (.int wy), some (.int at_), some (.ref l7), none, none] ∧ Same H3 H' ∧ TermsAt H' l7 ts7 ∧ (∀ j, cof ts7 j = cof us j) ∧ ts7.length ≤ us.length + 1) ?_ ?_
        · walk_at "go"
          intro e0 ne0
          refine r_neT (ts := us6) ⟨vs6, h_keep h6 ne0, hT.tk ((Tk.refl _).new ne0)⟩ (.none upd_same) ?_
          have s7 : Same H6 (upd H6 e0 (.lst [])) := Same.new0 ne0
          generalize upd H6 e0 (.lst []) = H7 at *
          have h67 := s7 _ _ h6
          have hT7 := hT.tk (Tk.same s7)
          walk_at "go"
          refine r_iteN (fun hne => ?_) (fun hne => ?_)
          · cases us6 with
            | nil => exact absurd rfl hne
            | cons p us6 =>
            cases vs6 with
            | nil => cases hv6l
            | cons v0 vs6 =>
            obtain ⟨b, p', us', e1, rfl, hb, hrest⟩ := hT7
            cases e1
            walk_at "go"
            refine r_ixL (.of h67) (atI_nil_of (i := 0) rfl rfl) ?_
            walk_at "go"
            refine r_ixL (.of h67) (atI_nil_of (i := 0) rfl rfl) ?_
            walk_at "go"
            intro t nt
            walk_at "go"
            intro m1 nm1
            walk_at "go"
            intro m2 nm2
            have ecut : cutV (V.ref b :: vs6) (some 1) none = vs6 := cut_drop (V.ref b :: vs6) 1
            rw [List.length_cons, List.length_cons] at hv6l
            rw [List.length_cons] at hTl
            refine r_cat (h_keep upd_same nm2) upd_same (by rw [ecut]; simp; omega) fun m3 nm3 => ?_
            walk_at "go"
            refine r_ixL (.of (h_keep (h_keep (h_keep (h_keep h67 nt) nm1) nm2) nm3)) (atI_nil_of (i := 0) rfl rfl) ?_
            walk_at "go"
            intro t2 nt2
            walk_at "go"
            intro m4 nm4
            refine r_cat (h_keep (h_keep upd_same nt2) nm4) upd_same (by rw [ecut]; simp; omega) fun m5 nm5 => ?_
            walk_at "go"
            have s8 := Same.new (o := .lst ([.ref t] ++ cutV (V.ref b :: vs6) (some 1) none ++ [.ref t2])) (Same.new (o := .lst [.ref t2]) (Same.new (o := .tup [.int p.1, .int 5]) (Same.new (o := .lst ([.ref t] ++ cutV (V.ref b :: vs6) (some 1) none)) (Same.new (o := .lst (cutV (V.ref b :: vs6) (some 1) none)) (Same.new (o := .lst [.ref t]) (Same.new0 (o := .tup [.int p.1, .int (p.2 - 5)]) nt) nm1) nm2) nm3) nt2) nm4) nm5
            refine ⟨m5, (p.1, p.2 - 5) :: (us6 ++ [(p.1, 5)]), rfl, s6.trans (s7.trans s8), ⟨_, upd_same, ?_⟩, fun j => ?_, by simp; omega⟩
            · rw [ecut]
              have hE := hrest.tk (Tk.same s8)
              rw [ecut] at hE nm3 nt2 nm4 nm5
              exact ⟨t, _, _, rfl, rfl, h_keep (h_keep (h_keep (h_keep (h_keep (h_keep upd_same nm1) nm2) nm3) nt2) nm4) nm5, hE.app (.one (h_keep (h_keep upd_same nm4) nm5))⟩
            · rw [← hTc j, cof, cof_app, cof, cof, cof]
              show (if p.1 = j then p.2 - 5 else 0) + (cof us6 j + ((if p.1 = j then 5 else 0) + 0)) = _
              split <;> omega
          · walk_at "go"
            exact ⟨l6, us6, rfl, s6.trans s7, ⟨vs6, h67, hT7⟩, hTc, by omega⟩
        · rintro σ' H7 ⟨l7, ts7, rfl, s7, ht7, hc7, hl7⟩
          walk_at "go"
          refine u_poly (l := l7) ht7 (by omega) fun b ps H8 nb s8 hb hcb hlb => ?_
          exact fin b ps H8 (s7.trans s8) hb (fun j => (hcb j).trans (hc7 j)) (by omega)
      · walk_at "go"
        refine r_iteD (fun h3 => ?_) (fun h3 => ?_)
        · walk_at "go"
          intro l4 nl4
          walk_at "go"
          have s4 : Same H3 (upd H3 l4 (.lst (cutV vs (some at_) none))) := Same.new0 nl4
          have h4 : (upd H3 l4 (.lst (cutV vs (some at_) none))) l4 = some (.lst (vs.drop at_.toNat)) := by rw [upd_same, cut2]
          generalize upd H3 l4 (.lst (cutV vs (some at_) none)) = H4 at *
          have hv4 := hv3.tk (Tk.same s4)
          have hlv4 := s4 _ _ hlv3
          refine u_poly (l := l4) (ts := us.drop at_.toNat) ⟨_, h4, hv4.drop _⟩ (by rw [List.length_drop]; omega) fun b ps H5 nb s5 hb hcb hlb => ?_
          have hlv5 := s5 _ _ hlv4
          have hv5 := hv4.tk (Tk.same s5)
          walk_at "go"
          intro l6 nl6
          walk_at "go"
          have s6 : Same H5 (upd H5 l6 (.lst (cutV vs none (some at_)))) := Same.new0 nl6
          have h6 : (upd H5 l6 (.lst (cutV vs none (some at_)))) l6 = some (.lst (vs.take at_.toNat)) := by rw [upd_same, cut1]
          generalize upd H5 l6 (.lst (cutV vs none (some at_))) = H6 at *
          refine u_poly (l := l6) (ts := us.take at_.toNat) ⟨_, h6, (hv5.tk (Tk.same s6)).take _⟩ (by rw [List.length_take]; omega) fun b' ps' H7 nb' s7 hb' hcb' hlb' => ?_
          have hb7 := hb.same (s6.trans s7)
          obtain ⟨dx1, r1, v1, g1, _⟩ := id hb7
          obtain ⟨dx2, r2, v2, g2, _⟩ := id hb'
          rw [List.length_drop] at hlb
          rw [List.length_take] at hlb'
          refine ⟨b, dx1, _, b', dx2, _, rfl, rfl, g1, g2, b, ps, .ref b', cof ps', ps'.length, rfl, hb7, .inl ⟨b', ps', rfl, hb', fun _ => rfl, Nat.le_refl _⟩, by omega, fun q qs H8 s8 hq hcq hlq => ?_⟩
          refine fin q qs H8 (s4.trans (s5.trans (s6.trans (s7.trans s8)))) hq (fun j => ?_) (by omega)
          rw [hcq]
          show cof ps j + cof ps' j = _
          rw [hcb, hcb', Int.add_comm, cof_cut]
        · walk_at "go"
          refine r_iteD (fun h4 => ?_) (fun h4 => ?_)
          · walk_at "go"
            refine r_revLL hlv3 fun l4 nl4 => ?_
            have s4 : Same H3 (upd H3 l4 (.lst vs.reverse)) := Same.new0 nl4
            have h4' : (upd H3 l4 (.lst vs.reverse)) l4 = some (.lst vs.reverse) := upd_same
            generalize upd H3 l4 (.lst vs.reverse) = H4 at *
            have hv4 := (hv3.tk (Tk.same s4)).reverse
            refine u_lcL (.of h4') (fun D i acc H2 => (TermsL H2 acc (negT (us.reverse.take i)) ∧ i ≤ vs.reverse.length) ∧ Same H4 H2) ?_ ?_ ?_ ?_
            · exact fun D hD => ⟨⟨rfl, Nat.zero_le _⟩, Same.new0 hD⟩
            · exact fun D i acc H2 _ _ ⟨_, s1⟩ => .of (s1 _ _ h4')
            · rintro D i x acc H2 hD hx hacc ⟨⟨ht2, hi0⟩, s1⟩
              obtain ⟨b, p, rfl, hp, hb⟩ := hv4.at i hx
              have hi2 := (List.getElem?_eq_some_iff.mp hx).1
              have hb2 := s1 _ _ hb
              have et : us.reverse.take (i + 1) = us.reverse.take i ++ [p] := by rw [List.take_succ, hp]; rfl
              have al : acc.length ≤ i := by
                rw [ht2.length, negT, List.length_map, List.length_take]; omega
              rw [List.length_reverse] at hi2
              walk_at "go"
              refine ⟨rfl, ?_⟩
              walk_at "go"
              intro t nt
              refine u_push (h_keep hacc nt) (by omega) ⟨⟨?_, by rw [List.length_reverse]; exact hi2⟩, Same.put (Same.new s1 nt) hD⟩
              have t1 : Tk H2 (upd (upd H2 t (.tup [.int p.1, .int (-p.2)])) D (.lst (acc ++ [.ref t]))) := ((Tk.refl _).new nt).lst (h_keep hacc nt)
              rw [et, negT, List.map_append]
              exact (ht2.tk t1).app (.one ((upd_ne (ne_of_none hacc nt).symm).trans upd_same))
            · rintro D acc H5 hD hacc ⟨⟨ht5, hi0⟩, s5⟩
              rw [List.take_of_length_le (by rw [List.length_reverse, List.length_reverse]; omega)] at ht5
              walk_at "go"
              have hnl : (negT us.reverse).length = us.length := by rw [negT, List.length_map, List.length_reverse]
              refine u_poly (l := D) (ts := negT us.reverse) ⟨acc, hacc, ht5⟩ (by omega) fun b ps H6 nb s6 hb hcb hlb => ?_
              obtain ⟨dx1, r1, v1, g1, _⟩ := id hb
              refine ⟨b, dx1, _, rfl, g1, b, ps, rfl, hb, by omega, fun q qs H7 s7 hq hcq hlq => ?_⟩
              refine fin q qs H7 (s4.trans (s5.trans (s6.trans s7))) hq (fun j => ?_) (by omega)
              rw [hcq]
              show -cof ps j = _
              rw [hcb, cof_neg, cof_rev]; omega
          · walk_at "go"
            refine r_iteD (fun h5 => ?_) (fun h5 => ?_)
            · walk_at "go"
              refine u_lcL (.of hlv3) (fun D i acc H2 => (TermsL H2 acc (mirT (us.take i)) ∧ i ≤ vs.length) ∧ Same H3 H2) ?_ ?_ ?_ ?_
              · exact fun D hD => ⟨⟨rfl, Nat.zero_le _⟩, Same.new0 hD⟩
              · exact fun D i acc H2 _ _ ⟨_, s1⟩ => .of (s1 _ _ hlv3)
              · rintro D i x acc H2 hD hx hacc ⟨⟨ht2, hi0⟩, s1⟩
                obtain ⟨b, p, rfl, hp, hb⟩ := hv3.at i hx
                have hi2 := (List.getElem?_eq_some_iff.mp hx).1
                have hb2 := s1 _ _ hb
                have et : us.take (i + 1) = us.take i ++ [p] := by rw [List.take_succ, hp]; rfl
                have al : acc.length ≤ i := by
                  rw [ht2.length, mirT, List.length_map, List.length_take]; omega
                walk_at "go"
                refine ⟨rfl, ?_⟩
                walk_at "go"
                intro t nt
                refine u_push (h_keep hacc nt) (by omega) ⟨⟨?_, hi2⟩, Same.put (Same.new s1 nt) hD⟩
                have t1 : Tk H2 (upd (upd H2 t (.tup [.int (-p.1), .int p.2])) D (.lst (acc ++ [.ref t]))) := ((Tk.refl _).new nt).lst (h_keep hacc nt)
                rw [et, mirT, List.map_append]
                exact (ht2.tk t1).app (.one ((upd_ne (ne_of_none hacc nt).symm).trans upd_same))
              · rintro D acc H5 hD hacc ⟨⟨ht5, hi0⟩, s5⟩
                rw [List.take_of_length_le (by omega)] at ht5
                walk_at "go"
                have hnl : (mirT us).length = us.length := by rw [mirT, List.length_map]
                refine u_poly (l := D) (ts := mirT us) ⟨acc, hacc, ht5⟩ (by omega) fun b ps H6 nb s6 hb hcb hlb => ?_
                obtain ⟨dx1, r1, v1, g1, _⟩ := id hb
                refine ⟨b, dx1, _, rfl, g1, rows_no (m := "mirrored") (by decide +kernel), ?_⟩
                walk_at "go"
                refine ⟨b, ps, rfl, hb, by omega, fun q qs H7 s7 hq hcq hlq => ?_⟩
                refine fin q qs H7 (s5.trans (s6.trans s7)) hq (fun j => ?_) (by omega)
                rw [hcq]
                show cof ps (-j) = _
                rw [hcb, cof_mir, Int.neg_neg]
            · walk_at "go"
              refine u_poly (l := l) (ts := us) ⟨vs, hlv3, hv3⟩ (by omega) fun b ps H6 nb s6 hb hcb hlb => ?_
              exact fin b ps H6 s6 hb hcb (by omega)
end

set_option Elab.async false
set_option linter.all false
set_option maxRecDepth 100000
set_option maxHeartbeats 8000000
set_option pp.deepTerms false
set_option pp.deepTerms.threshold 12
set_option pp.maxSteps 1200

open PySem PySem.Spec PyProof.Rows L2
section
variable {P : Program} {w : World} {K : PySem.W.Frag} {mg : Str → Option Value} {base : Heap}

local macro_rules | `(tactic| walk_at "s") => `(tactic| (first
  | (with_reducible refine r_dnew ?_)
  | (with_reducible refine r_dget2 ?_)
  | (with_reducible refine r_dget ?_)
  | (with_reducible refine r_dput ?_)
  | (with_reducible refine r_dsetd ?_)
  | ((with_reducible refine JarAt.isD (n := ?nn) (c := ?cc) ?hh ?_); (case hh => assumption))
  ))

local macro_rules | `(tactic| walk_at "s") => `(tactic| (first
  | (with_reducible refine r_prop ?_)
  | (with_reducible refine r_meth ?_)
  | (with_reducible refine r_make ?_)
  | (with_reducible refine r_fld ?_)
  | (with_reducible refine r_sfld ?_)
  | (with_reducible refine r_iOwn ?_)
  | ((with_reducible refine u_rowsAt (mg := ?mm) (C := ?CC) (dx := ?dd) (fv := ?vv) ?tt ?hh ?_); (case tt => assumption); (case hh => walk_at "hp"))
  | ((with_reducible refine r_isPoly (mg := ?mm) (dx := ?dd) (fs := ?ff) ?tt ?hh ?_); (case tt => assumption); (case hh => walk_at "hp"))
  | ((with_reducible refine r_isPolyI (mg := ?mm) ?tt ?_); (case tt => assumption))
  | ((with_reducible refine r_polyInt (mg := ?mm) (C := ?CC) (dx := ?dd) (fs := ?ff) ?tt ?hh ?_); (case tt => assumption); (case hh => walk_at "hp"))
  ))

local macro_rules | `(tactic| walk_at "s") => `(tactic| (first
  | (with_reducible refine r_iKeys ?_)
  | (with_reducible refine rl_disp ?_)
  | (with_reducible refine rl_pc ?_)
  | (with_reducible refine rl_pn ?_)
  ))
end

set_option Elab.async false
set_option linter.all false
set_option maxRecDepth 100000
set_option maxHeartbeats 4000000

open PySem PySem.Spec PyProof.Rows L2
section
variable {P : Program} {w : World} {K : PySem.W.Frag} {mg : Str → Option Value} {base : Heap}

end

set_option Elab.async false
set_option linter.all false
set_option maxRecDepth 100000
set_option maxHeartbeats 8000000
set_option pp.deepTerms false
set_option pp.deepTerms.threshold 12
set_option pp.maxSteps 1200

open PySem PySem.Spec PyProof.Rows L2
/-- a short program, nested d deep at most -/
structure Curt (d : Nat) (F : Int) (p : Prog) : Prop where
  wf : Wf BC BC d p
  l0 : 1 ≤ p.len
  l1 : p.len ≤ 60
  sz : p.size ≤ 190
  way : Prog.wayIn F 0 (Prog.unroll 1 p)
section
variable {P : Program} {w : World} {K : PySem.W.Frag} {mg : Str → Option Value} {base : Heap}

end

set_option Elab.async false
set_option linter.all false
set_option maxRecDepth 100000
set_option maxHeartbeats 8000000
set_option pp.deepTerms false
set_option pp.deepTerms.threshold 12
set_option pp.maxSteps 1200

open PySem PySem.Spec PyProof.Rows L2
/-- a short program, nested d deep at most -/
structure Sh (d : Nat) (p : Prog) : Prop where
  wf : Wf BC BC d p
  l0 : 1 ≤ p.len
  l1 : p.len ≤ 61
  sz : p.size ≤ 200
  way : Prog.wayIn 12 0 (Prog.unroll 1 p)
theorem Sh.mono {d e : Nat} {p : Prog} (h : Sh d p) (l : d ≤ e) : Sh e p := { h with wf := WfL.mono (Int.le_refl _) (Int.le_refl _) l h.wf }
/-- .. with the last heading 0 -/
structure Dp0 (d : Nat) (p : Prog) : Prop extends Sh d p where
  hd : p.head = 0
theorem Dp0.mir {d : Nat} {p : Prog} (h : Dp0 d p) : Dp0 (d + 1) (.mir p .nil) where
  wf := ⟨⟨h.l0, by have := h.l1; omega⟩, h.wf, WfL.nil⟩
  l0 := Nat.le_refl 1
  l1 := by show 1 ≤ 61; decide
  sz := by rw [Prog.size, Prog.size]; have := h.sz; omega
  way := by
    have := Prog.way_neg h.way
    rw [Int.neg_zero] at this
    exact Prog.wayIn_app this trivial
  hd := by rw [Prog.head, Prog.head, h.hd]; rfl
theorem Dp0.rep {d : Nat} {p : Prog} (h : Dp0 d p) {k : Int} (k1 : 1 ≤ k) (k2 : k ≤ 2) (z : k * p.size ≤ 200) : Dp0 (d + 1) (.rep k p .nil) where
  wf := ⟨⟨k1, by have : BC = 10000000000000000000000000000000 := by decide
                 omega⟩, ⟨h.l0, by have := h.l1; omega⟩, h.wf, WfL.nil⟩
  l0 := Nat.le_refl 1
  l1 := by show 1 ≤ 61; decide
  sz := by rw [Prog.size, Prog.size]; omega
  way := by
    refine Prog.wayIn_app (Prog.way_times h.way ?_ _) trivial
    rw [Prog.head_unroll (.inl rfl) h.wf, h.hd]
    rfl
  hd := by rw [Prog.head, Prog.head, h.hd]; omega
theorem Dp0.step {d : Nat} {p : Prog} {w n : Str} (h : Dp0 d p) (hw : IsWord w) (hn : IsName n) (l : p.len ≤ 60) (z : p.size < 200) : Dp0 d (.step w n p) where
  wf := WfL.step_iff.mpr ⟨hw, hn, h.wf⟩
  l0 := by rw [Prog.len]; omega
  l1 := by rw [Prog.len]; omega
  sz := by rw [Prog.size]; omega
  way := h.way
  hd := by rw [Prog.head]; exact h.hd
/-- a round of steps behind or ahead -/
theorem Curt.more {d : Nat} {p r : Prog} {k : Int} (h : Curt d 12 p) (hr : Prog.onlySteps r) (wr : Wf BC BC 0 r) (r1 : 1 ≤ r.len) (r2 : r.len ≤ 4) (k1 : 1 ≤ k) (k2 : k ≤ 200) (z : p.size + k * r.len ≤ 200) :
    Sh (d + 1) (p.app (.rep k r .nil)) ∧ Sh (d + 1) ((Prog.rep k r .nil).app p) := by
  have hBC : BC = 10000000000000000000000000000000 := by decide
  have wm : Wf BC BC (d + 1) (.rep k r .nil) := ⟨⟨k1, by omega⟩, ⟨r1, by omega⟩, WfL.mono (Int.le_refl _) (Int.le_refl _) (Nat.zero_le _) wr, WfL.nil⟩
  have wp : Wf BC BC (d + 1) p := WfL.mono (Int.le_refl _) (Int.le_refl _) (Nat.le_succ _) h.wf
  have em : Prog.unroll 1 (.rep k r .nil) = (Prog.times k.toNat r).app .nil := by rw [Prog.unroll, Prog.only_unroll 1 hr]; rfl
  have sm : (Prog.rep k r .nil).size = k * r.len := by rw [Prog.size, Prog.size, Prog.size_flat wr]; omega
  have l0 := h.l0
  have l1 := h.l1
  have wt : ∀ x, Prog.wayIn 12 x ((Prog.times k.toNat r).app .nil) := fun x => Prog.wayIn_app (Prog.way_times (Prog.only_way hr) (Prog.only_head hr) _) trivial
  have ht : ((Prog.times k.toNat r).app .nil).head = 0 := by rw [Prog.head_app, Prog.head_times, Prog.only_head hr, Prog.head]; omega
  refine ⟨⟨wp.app wm, ?_, ?_, ?_, ?_⟩, ⟨wm.app wp, ?_, ?_, ?_, ?_⟩⟩
  · rw [Prog.len_app]; omega
  · rw [Prog.len_app]; show p.len + 1 ≤ 61; omega
  · rw [Prog.size_app, sm]; exact z
  · rw [Prog.unroll_app, em]
    exact Prog.wayIn_app h.way (wt _)
  · rw [Prog.len_app]; omega
  · rw [Prog.len_app]; show 1 + p.len ≤ 61; omega
  · rw [Prog.size_app, sm]; omega
  · rw [Prog.unroll_app, em]
    refine Prog.wayIn_app (wt _) ?_
    rw [ht]
    exact h.way
section
variable {P : Program} {w : World} {K : PySem.W.Frag} {mg : Str → Option Value} {base : Heap}

end

set_option Elab.async false
set_option linter.all false
set_option maxRecDepth 100000
set_option maxHeartbeats 8000000
set_option pp.deepTerms false
set_option pp.deepTerms.threshold 12
set_option pp.maxSteps 1200

open PySem PySem.Spec PyProof.Rows L2
section
variable {P : Program} {w : World} {K : PySem.W.Frag} {mg : Str → Option Value} {base : Heap}

end

set_option Elab.async false
set_option linter.all false
set_option maxRecDepth 100000
set_option maxHeartbeats 4000000

open PySem PySem.Spec PyProof.Rows L2 RT
/-- two values with the same content: ints, strs, tuples of such -/
def SameV (H : Hp) : Nat → V → V → Prop
  | 0, _, _ => False
  | n + 1, x, y => (∃ i, x = .int i ∧ y = .int i) ∨ (∃ s, x = .str s ∧ y = .str s) ∨ ∃ a b xs ys, x = .ref a ∧ y = .ref b ∧ H a = some (.tup xs) ∧ H b = some (.tup ys) ∧ xs.length = ys.length ∧ xs.length ≤ 10000 ∧ ∀ (i : Nat) u v, xs[i]? = some u → ys[i]? = some v → SameV H n u v
theorem SameV.tk {H H' : Hp} (t : Tk H H') : ∀ {n : Nat} {x y : V}, SameV H n x y → SameV H' n x y
  | 0, _, _, h => h.elim
  | n + 1, _, _, .inl h => .inl h
  | n + 1, _, _, .inr (.inl h) => .inr (.inl h)
  | n + 1, _, _, .inr (.inr ⟨a, b, xs, ys, h1, h2, h3, h4, h5, h6, h7⟩) => .inr (.inr ⟨a, b, xs, ys, h1, h2, t _ _ h3, t _ _ h4, h5, h6, fun i u v hu hv => (h7 i u v hu hv).tk t⟩)
theorem at_nat {xs : List V} {i : Nat} {x : V} (h : xs[i]? = some x) : atI xs (i : Int) = some x := by
  obtain ⟨hi, _⟩ := List.getElem?_eq_some_iff.mp h
  unfold atI ixN
  rw [if_pos (by omega), if_pos (by omega)]
  exact h
def spSame (n : Nat) : Sp := fun vs H Q _ => ∃ x y, vs = [x, y] ∧ SameV H n x y ∧ ∀ H', Same H H' → Q (.bl true) H'
section
variable {P : Program} {w : World} {K : PySem.W.Frag} {mg : Str → Option Value} {base : Heap}

theorem ok_l_same_piece {f : Addr} {fd : FuncData} (d : Nat) (F : Fun K "_law_same_piece" "_law_same_piece" s_l_same_piece f fd) (B : Bl mg) (h_l_same_piece : Has P w K mg base "_law_same_piece" d ["_law_found", "_law_due"] (spSame d)) : FnOk P w K mg base CX0 (d + 1) f fd ["_law_found", "_law_due"] (spSame (d + 1)) := by
  refine F.ok sc_l_same_piece (fun vs H Q E h => ?_) (fun cdv A outer s H vs Q E hr h => ?_)
  · obtain ⟨x, y, rfl, _⟩ := h
    rfl
  · obtain ⟨x, y, rfl, h, k⟩ := h
    refine ⟨_, (pss_cons (ps_if (pt_val (pe_callB (call_isiKK (K := K)) (by rfl) B.b_isinstance (by decide +kernel) (pa_cons (pv 1) (pa_cons (pe_bltn (v := .ty "tuple") (by rfl) B.b_tuple (by decide +kernel) rfl) pa_nil))))
    (pss_cons (ps_if (PW.pt (pw_or (pt_not (pt_val (pe_callB (call_isiKK (K := K)) (by rfl) B.b_isinstance (by decide +kernel) (pa_cons (pv 0) (pa_cons (pe_bltn (v := .ty "tuple") (by rfl) B.b_tuple (by decide +kernel) rfl) pa_nil))))) (pw_or1 (pt_cmpR op_ne (pe_callB (call_lenK (K := K)) (by rfl) B.b_len PySem.boot_len (pa_cons (pv 0) pa_nil)) (pe_callB (call_lenK (K := K)) (by rfl) B.b_len PySem.boot_len (pa_cons (pv 1) pa_nil)) (nomark _)))))
    (pss_one (ps_ret pe_bl))
    pss_nil)
    (pss_one (ps_ret (pe_callB (call_allK (K := K)) (by rfl) B.b_all (by decide +kernel) (pa_cons (pe_lc (own := [("_law_k", 2)]) rfl sc_l_same_piece.nd (pi_range1 (by rfl) B.b_range (pa_cons (pe_callB (call_lenK (K := K)) (by rfl) B.b_len PySem.boot_len (pa_cons (pv 1) pa_nil)) pa_nil)) (blkOk_by (N := ["_law_found", "_law_due", "_law_k"]) (sc := defScope s_l_same_piece) (by decide +kernel)) (fun _ _ _ _ _ => (pg_name (i := 2) sc_l_same_piece.nd rfl (.inl rfl))) (fun _ _ _ _ _ => pts_nil) (fun _ _ _ _ _ => (pe_callH h_l_same_piece (hr.mono (by first | decide | omega)) (pa_cons (pe_ix (ix_tupK (K := K)) (pv 0) (pv 2) (fun _ _ => rfl)) (pa_cons (pe_ix (ix_tupK (K := K)) (pv 1) (pv 2) (fun _ _ => rfl)) pa_nil))))) pa_nil)))))
    pss_nil)
    (pss_cons (ps_if (PW.pt (pw_or (pt_val (pe_callB (call_isiKK (K := K)) (by rfl) B.b_isinstance (by decide +kernel) (pa_cons (pv 0) (pa_cons (pe_bltn (v := .ty "bool") (by rfl) B.b_bool (by decide +kernel) rfl) pa_nil)))) (pw_or1 (pt_cmpR op_ne (pe_callB (call_isiKK (K := K)) (by rfl) B.b_isinstance (by decide +kernel) (pa_cons (pv 0) (pa_cons (pe_bltn (v := .ty "int") (by rfl) B.b_int (by decide +kernel) rfl) pa_nil))) (pe_callB (call_isiKK (K := K)) (by rfl) B.b_isinstance (by decide +kernel) (pa_cons (pv 1) (pa_cons (pe_bltn (v := .ty "int") (by rfl) B.b_int (by decide +kernel) rfl) pa_nil))) (nomark _)))))
    (pss_one (ps_ret pe_bl))
    pss_nil)
    (pss_one (ps_ret (pe_and (pe_callB call_isiT (by rfl) B.b_isinstance (by decide +kernel) (pa_cons (pv 0) (pa_cons (pe_tup (pa_cons (pe_bltn (v := .ty "int") (by rfl) B.b_int (by decide +kernel) rfl) (pa_cons (pe_bltn (v := .ty "str") (by rfl) B.b_str (by decide +kernel) rfl) pa_nil))) pa_nil))) (pe_one (pe_cmpR op_eq (pv 0) (pv 1) (nomark _)))))))), ?_⟩
    rcases h with ⟨i, rfl, rfl⟩ | ⟨z, rfl, rfl⟩ | ⟨a, b, xs, ys, rfl, rfl, ha, hb, hl, hl2, hs⟩
    · walk_at "go"
      intro tp ntp
      walk_at "go"
      refine r_isiT_int upd_same ?_
      walk_at "go"
      show Q (.bl (decide (i = i))) _
      rw [decide_eq_true rfl]
      exact k _ (Same.new0 ntp)
    · walk_at "go"
      intro tp ntp
      walk_at "go"
      refine r_isiT_str upd_same ?_
      walk_at "go"
      show Q (.bl (decide (z = z))) _
      rw [decide_eq_true rfl]
      exact k _ (Same.new0 ntp)
    · walk_at "go"
      refine u_lc1 ⟨by omega, by omega⟩ (fun D i acc H' => (acc = (List.replicate i true).map V.bl ∧ i ≤ ys.length) ∧ Same H H') ?_ ?_ ?_
      · exact fun D hD => ⟨⟨rfl, by omega⟩, Same.new0 hD⟩
      · rintro D i acc H' hD hi hacc ⟨⟨ea, _⟩, sm⟩
        have hi' : i < ys.length := by omega
        have hx : xs[i]? = some xs[i] := List.getElem?_eq_getElem (by omega)
        have hy : ys[i]? = some ys[i] := List.getElem?_eq_getElem hi'
        have hxa : atI xs (i : Int) = some xs[i] := at_nat hx
        have hya : atI ys (i : Int) = some ys[i] := at_nat hy
        walk_at "go"
        refine ⟨rfl, ?_⟩
        walk_at "go"
        refine r_ixT (SqT.of (sm _ _ ha)) hxa ?_
        walk_at "go"
        refine r_ixT (SqT.of (sm _ _ hb)) hya ?_
        walk_at "go"
        refine ⟨_, _, rfl, (hs i _ _ hx hy).tk (Tk.same sm), fun H2 s2 => ?_⟩
        have al : acc.length = i := by rw [ea]; simp
        refine u_push (s2 _ _ hacc) (by omega) ⟨⟨?_, by omega⟩, Same.put (sm.trans s2) hD⟩
        rw [ea, List.replicate_succ', List.map_append]
        rfl
      · rintro D acc H' hD hacc ⟨⟨ea, _⟩, sm⟩
        walk_at "go"
        rw [ea] at hacc
        refine r_all (SqL.of hacc) ?_
        rw [show ((List.replicate ((ys.length : Int)).toNat true).all id) = true by simp]
        exact k _ sm
end

set_option Elab.async false
set_option linter.all false
set_option maxRecDepth 100000
open PySem PySem.Spec PyProof.Rows L2 RT
theorem same_of2 {H : Hp} {n : Nat} {a b : Addr} {x y u v : V} (h1 : H a = some (.tup [x, y])) (h2 : H b = some (.tup [u, v])) (hx : SameV H n x u) (hy : SameV H n y v) : SameV H (n + 1) (.ref a) (.ref b) :=
  .inr (.inr ⟨a, b, _, _, rfl, rfl, h1, h2, rfl, by simp, fun i s t hs ht => by
    match i, hs, ht with
    | 0, hs, ht => cases hs; cases ht; exact hx
    | 1, hs, ht => cases hs; cases ht; exact hy⟩)
theorem same_of3 {H : Hp} {n : Nat} {a b : Addr} {x y z u v w : V} (h1 : H a = some (.tup [x, y, z])) (h2 : H b = some (.tup [u, v, w])) (hx : SameV H n x u) (hy : SameV H n y v) (hz : SameV H n z w) : SameV H (n + 1) (.ref a) (.ref b) :=
  .inr (.inr ⟨a, b, _, _, rfl, rfl, h1, h2, rfl, by simp, fun i s t hs ht => by
    match i, hs, ht with
    | 0, hs, ht => cases hs; cases ht; exact hx
    | 1, hs, ht => cases hs; cases ht; exact hy
    | 2, hs, ht => cases hs; cases ht; exact hz⟩)
theorem same_at {H : Hp} : ∀ {p : Prog} {d : Nat} {xs ys : List V}, PrAt H p xs → PrAt H p ys → Wf BC BC d p → ∀ (i : Nat) (u v : V), xs[i]? = some u → ys[i]? = some v → SameV H (2 * d + 2) u v
  | .nil, d, xs, ys, h, h', _, i, u, v, hu, hv => by
    have e : xs = [] := h
    rw [e] at hu
    cases hu
  | .step w n r, d, xs, ys, h, h', hw, i, u, v, hu, hv => by
    obtain ⟨c, zs, rfl, h1, h2⟩ := h
    obtain ⟨c', zs', rfl, h1', h2'⟩ := h'
    match i, hu, hv with
    | 0, hu, hv =>
      cases hu; cases hv
      exact same_of2 h1 h1' (.inr (.inl ⟨_, rfl, rfl⟩)) (.inr (.inl ⟨_, rfl, rfl⟩))
    | i + 1, hu, hv => exact same_at h2 h2' (WfL.step_iff.mp hw).2.2 i u v hu hv
  | .turn k r, d, xs, ys, h, h', hw, i, u, v, hu, hv => by
    obtain ⟨c, zs, rfl, h1, h2⟩ := h
    obtain ⟨c', zs', rfl, h1', h2'⟩ := h'
    match i, hu, hv with
    | 0, hu, hv =>
      cases hu; cases hv
      exact same_of2 h1 h1' (.inr (.inl ⟨_, rfl, rfl⟩)) (.inl ⟨_, rfl, rfl⟩)
    | i + 1, hu, hv => exact same_at h2 h2' (WfL.turn_iff.mp hw).2 i u v hu hv
  | .rep k b r, 0, xs, ys, h, h', hw, i, u, v, hu, hv => hw.elim
  | .rep k b r, d + 1, xs, ys, h, h', hw, i, u, v, hu, hv => by
    obtain ⟨c, q, bs, zs, rfl, h1, h3, h4, h2⟩ := h
    obtain ⟨c', q', bs', zs', rfl, h1', h3', h4', h2'⟩ := h'
    match i, hu, hv with
    | 0, hu, hv =>
      cases hu; cases hv
      have l := h4.length
      have l' := h4'.length
      have hb := hw.2.1
      exact same_of3 h1 h1' (.inr (.inl ⟨_, rfl, rfl⟩)) (.inl ⟨_, rfl, rfl⟩) (.inr (.inr ⟨q, q', bs, bs', rfl, rfl, h3, h3', by omega, by omega, fun j s t hs ht => same_at h4 h4' hw.2.2.1 j s t hs ht⟩))
    | i + 1, hu, hv => exact same_at h2 h2' hw.2.2.2 i u v hu hv
  | .mir b r, 0, xs, ys, h, h', hw, i, u, v, hu, hv => hw.elim
  | .mir b r, d + 1, xs, ys, h, h', hw, i, u, v, hu, hv => by
    obtain ⟨c, q, bs, zs, rfl, h1, h3, h4, h2⟩ := h
    obtain ⟨c', q', bs', zs', rfl, h1', h3', h4', h2'⟩ := h'
    match i, hu, hv with
    | 0, hu, hv =>
      cases hu; cases hv
      have l := h4.length
      have l' := h4'.length
      have hb := hw.1
      exact same_of2 h1 h1' (.inr (.inl ⟨_, rfl, rfl⟩)) (.inr (.inr ⟨q, q', bs, bs', rfl, rfl, h3, h3', by omega, by omega, fun j s t hs ht => same_at h4 h4' hw.2.1 j s t hs ht⟩))
    | i + 1, hu, hv => exact same_at h2 h2' hw.2.2 i u v hu hv
section
variable {P : Program} {w : World} {K : PySem.W.Frag} {mg : Str → Option Value} {base : Heap}
theorem has_same {f : Addr} {fd : FuncData} (F : Fun K "_law_same_piece" "_law_same_piece" s_l_same_piece f fd) (B : Bl mg) (g : mg "_law_same_piece" = some (.ref f)) (b : Binds K fd ["_law_found", "_law_due"] []) : ∀ d, Has P w K mg base "_law_same_piece" d ["_law_found", "_law_due"] (spSame d)
  | 0 => ⟨f, fd, ⟨fun _ _ _ _ ⟨_, _, _, h, _⟩ => h.elim, fun _ _ _ _ _ _ _ _ _ _ _ _ _ ⟨_, _, _, h, _⟩ => h.elim⟩, g, F.kp, b⟩
  | d + 1 => ⟨f, fd, ok_l_same_piece d F B (has_same F B g b d), g, F.kp, b⟩
end

set_option Elab.async false
set_option linter.all false
set_option maxRecDepth 100000
set_option maxHeartbeats 4000000

open PySem PySem.Spec PyProof.Rows L2
section
variable {P : Program} {w : World} {K : PySem.W.Frag} {mg : Str → Option Value} {base : Heap}

local macro_rules | `(tactic| walk_at "s") => `(tactic| (first
  | ((with_reducible refine r_extend (xs := ?xx) (ys := ?yy) ?hh ?ii ?ll ?_); (case hh => walk_at "hp"); (case ii => walk_at "hp"); (case ll => walk_at "side"))
  ))
end

set_option Elab.async false
set_option linter.all false
set_option maxRecDepth 100000
set_option maxHeartbeats 4000000

open PySem PySem.Spec PyProof.Rows L2 RT
section
variable {P : Program} {w : World} {K : PySem.W.Frag} {mg : Str → Option Value} {base : Heap}

def spIsPc : Nat → Sp
  | 0 => fun _ _ _ _ => False
  | d + 1 => fun vs H Q _ => ∃ a p, vs = [.ref a] ∧ PrIs H a p ∧ Wf BC BC d p ∧ 1 ≤ p.len ∧ p.len ≤ 4000 ∧ ∀ H', Same H H' → Q (.bl true) H'
theorem ok_l_is_piece {f : Addr} {fd : FuncData} (d : Nat) (F : Fun K "_law_is_piece" "_law_is_piece" s_l_is_piece f fd) (B : Bl mg) (h_l_is_int : Has P w K mg base "_law_is_int" 1 ["_law_thing"] spIsInt) (h_l_is_piece : Has P w K mg base "_law_is_piece" (d + 1) ["_law_thing"] (spIsPc d)) :
    FnOk P w K mg base CX0 (d + 2) f fd ["_law_thing"] (spIsPc (d + 1)) := by
  refine F.ok sc_l_is_piece (fun vs H Q E h => ?_) (fun cdv A outer s H vs Q E hr h => ?_)
  · obtain ⟨a, p, rfl, _⟩ := h
    rfl
  · obtain ⟨a, p, rfl, ⟨xs, hx, hp⟩, hw, l1, l2, k⟩ := h
    have hl := hp.length
    refine ⟨_, (pss_cons (ps_if (PW.pt (pw_or (pt_not (pt_val (pe_callB (call_isiKK (K := K)) (by rfl) B.b_isinstance (by decide +kernel) (pa_cons (pv 0) (pa_cons (pe_bltn (v := .ty "tuple") (by rfl) B.b_tuple (by decide +kernel) rfl) pa_nil))))) (pw_or1 (pt_cmpR op_eq (pe_callB (call_lenK (K := K)) (by rfl) B.b_len PySem.boot_len (pa_cons (pv 0) pa_nil)) pe_int (nomark _)))))
    (pss_one (ps_ret pe_bl))
    pss_nil)
    (pss_cons (ps_for PassesOwn.never rfl (pi_tup (pv 0)) (pg_name (i := 1) sc_l_is_piece.nd rfl (.inl rfl))
    (pss_cons (ps_if (PW.pt (pw_or (pt_not (pt_val (pe_callB (call_isiKK (K := K)) (by rfl) B.b_isinstance (by decide +kernel) (pa_cons (pv 1) (pa_cons (pe_bltn (v := .ty "tuple") (by rfl) B.b_tuple (by decide +kernel) rfl) pa_nil))))) (pw_or (pt_cmpR op_lt (pe_callB (call_lenK (K := K)) (by rfl) B.b_len PySem.boot_len (pa_cons (pv 1) pa_nil)) pe_int (nomark _)) (pw_or1 (pt_not (pt_val (pe_callB (call_isiKK (K := K)) (by rfl) B.b_isinstance (by decide +kernel) (pa_cons (pe_ix (ix_tupK (K := K)) (pv 1) pe_int (fun _ _ => rfl)) (pa_cons (pe_bltn (v := .ty "str") (by rfl) B.b_str (by decide +kernel) rfl) pa_nil)))))))))
    (pss_one (ps_ret pe_bl))
    pss_nil)
    (pss_one (ps_if (PW.pt (pw_and (pt_cmpR op_in_seq (pe_ix (ix_tupK (K := K)) (pv 1) pe_int (fun _ _ => rfl)) (pe_lst (pa_cons pe_str (pa_cons pe_str (pa_cons pe_str (pa_cons pe_str pa_nil))))) (by rfl)) (pw_and1 (pt_cmpR op_eq (pe_callB (call_lenK (K := K)) (by rfl) B.b_len PySem.boot_len (pa_cons (pv 1) pa_nil)) pe_int (nomark _)))))
    (pss_one (ps_if (PW.pt (pw_or (pt_not (pt_val (pe_callB (call_isiKK (K := K)) (by rfl) B.b_isinstance (by decide +kernel) (pa_cons (pe_ix (ix_tupK (K := K)) (pv 1) pe_int (fun _ _ => rfl)) (pa_cons (pe_bltn (v := .ty "str") (by rfl) B.b_str (by decide +kernel) rfl) pa_nil))))) (pw_or (pt_cmpR op_ne (pe_callB call_lenS (by rfl) B.b_len PySem.boot_len (pa_cons (pe_ix (ix_tupK (K := K)) (pv 1) pe_int (fun _ _ => rfl)) pa_nil)) pe_int (nomark _)) (pw_or1 (pt_cmpR op_notIn_str (pe_ix (ix_tupK (K := K)) (pv 1) pe_int (fun _ _ => rfl)) pe_str (by rfl))))))
    (pss_one (ps_ret pe_bl))
    pss_nil))
    (pss_one (ps_if (PW.pt (pw_and (pt_cmpR op_eq (pe_ix (ix_tupK (K := K)) (pv 1) pe_int (fun _ _ => rfl)) pe_str (nomark _)) (pw_and1 (pt_cmpR op_eq (pe_callB (call_lenK (K := K)) (by rfl) B.b_len PySem.boot_len (pa_cons (pv 1) pa_nil)) pe_int (nomark _)))))
    (pss_one (ps_if (pt_not (pt_val (pe_callH h_l_is_int (hr.mono (by first | decide | omega)) (pa_cons (pe_ix (ix_tupK (K := K)) (pv 1) pe_int (fun _ _ => rfl)) pa_nil))))
    (pss_one (ps_ret pe_bl))
    pss_nil))
    (pss_one (ps_if (PW.pt (pw_and (pt_cmpR op_eq (pe_ix (ix_tupK (K := K)) (pv 1) pe_int (fun _ _ => rfl)) pe_str (nomark _)) (pw_and1 (pt_cmpR op_eq (pe_callB (call_lenK (K := K)) (by rfl) B.b_len PySem.boot_len (pa_cons (pv 1) pa_nil)) pe_int (nomark _)))))
    (pss_one (ps_if (pt_not (pt_val (pe_callH h_l_is_piece (hr.mono (by first | decide | omega)) (pa_cons (pe_ix (ix_tupK (K := K)) (pv 1) pe_int (fun _ _ => rfl)) pa_nil))))
    (pss_one (ps_ret pe_bl))
    pss_nil))
    (pss_one (ps_if (PW.pt (pw_and (pt_cmpR op_eq (pe_ix (ix_tupK (K := K)) (pv 1) pe_int (fun _ _ => rfl)) pe_str (nomark _)) (pw_and1 (pt_cmpR op_eq (pe_callB (call_lenK (K := K)) (by rfl) B.b_len PySem.boot_len (pa_cons (pv 1) pa_nil)) pe_int (nomark _)))))
    (pss_one (ps_if (PW.pt (pw_or (pt_not (pt_val (pe_callH h_l_is_int (hr.mono (by first | decide | omega)) (pa_cons (pe_ix (ix_tupK (K := K)) (pv 1) pe_int (fun _ _ => rfl)) pa_nil)))) (pw_or (pt_cmpR op_lt (pe_ix (ix_tupK (K := K)) (pv 1) pe_int (fun _ _ => rfl)) pe_int (nomark _)) (pw_or1 (pt_not (pt_val (pe_callH h_l_is_piece (hr.mono (by first | decide | omega)) (pa_cons (pe_ix (ix_tupK (K := K)) (pv 1) pe_int (fun _ _ => rfl)) pa_nil))))))))
    (pss_one (ps_ret pe_bl))
    pss_nil))
    (pss_one (ps_ret pe_bl))))))))))))
    (pss_one (ps_ret pe_bl)))), ?_⟩
    walk_at "go"
    have ne0 : ¬ (xs.length : Int) = 0 := by omega
    refine u_forPr hx hp (fun r σ H' => ∃ (y1 : Option V), σ = [some (.ref a), y1] ∧ Same H H' ∧ Wf BC BC d r) ?_ ?_ ?_ ?_
    · exact ⟨none, rfl, Same.refl _, hw⟩
    · rintro r σ H' ⟨y1, rfl, sm, _⟩
      exact Tk.same sm
    · rintro x r r' σ H' hf ⟨y1, rfl, sm, hw'⟩
      cases r with
      | nil => exact hf.elim
      | step w' n r =>
        obtain ⟨c, rfl, h1, rfl⟩ := hf
        obtain ⟨w1, w2, w3⟩ := WfL.step_iff.mp hw'
        have n1 := name_len w2
        have n3 := occ_name w2
        walk_at "go"
        intro l nl
        walk_at "go"
        refine r_inW upd_same ?_
        rw [in_word w1]
        walk_at "go"
        refine ⟨_, _, rfl, rfl, ?_⟩
        rw [n3]
        walk_at "go"
        exact ⟨_, rfl, sm.trans (Same.new0 nl), w3⟩
      | turn k' r =>
        obtain ⟨c, rfl, h1, rfl⟩ := hf
        walk_at "go"
        intro l nl
        walk_at "go"
        refine r_inW upd_same ?_
        rw [in_turn]
        walk_at "go"
        refine ⟨k', rfl, ?_⟩
        walk_at "go"
        exact ⟨_, rfl, sm.trans (Same.new0 nl), (WfL.turn_iff.mp hw').2⟩
      | rep k' b r =>
        obtain ⟨c, q, rfl, h1, h2, rfl⟩ := hf
        cases d with
        | zero => exact hw'.elim
        | succ d =>
          obtain ⟨w1, w2, w3, w4⟩ := hw'
          have h1l := w1.1
          walk_at "go"
          intro l nl
          walk_at "go"
          refine r_inW upd_same ?_
          rw [in_repeat]
          walk_at "go"
          refine ⟨k', rfl, ?_⟩
          walk_at "go"
          refine ⟨q, b, rfl, h2.tk ((Tk.refl _).new nl), w3, w2.1, w2.2, fun H2 s2 => ?_⟩
          walk_at "go"
          exact ⟨_, rfl, (sm.trans (Same.new0 nl)).trans s2, w4⟩
      | mir b r =>
        obtain ⟨c, q, rfl, h1, h2, rfl⟩ := hf
        cases d with
        | zero => exact hw'.elim
        | succ d =>
          obtain ⟨w2, w3, w4⟩ := hw'
          walk_at "go"
          intro l nl
          walk_at "go"
          refine r_inW upd_same ?_
          rw [in_mirror]
          walk_at "go"
          refine ⟨q, b, rfl, h2.tk ((Tk.refl _).new nl), w3, w2.1, w2.2, fun H2 s2 => ?_⟩
          walk_at "go"
          exact ⟨_, rfl, (sm.trans (Same.new0 nl)).trans s2, w4⟩
    · rintro σ H' ⟨y1, rfl, sm, _⟩
      walk_at "go"
      exact k _ sm
theorem has_isPiece {f : Addr} {fd : FuncData} (F : Fun K "_law_is_piece" "_law_is_piece" s_l_is_piece f fd) (B : Bl mg) (h_l_is_int : Has P w K mg base "_law_is_int" 1 ["_law_thing"] spIsInt) (g : mg "_law_is_piece" = some (.ref f)) (b : Binds K fd ["_law_thing"] []) : ∀ d, Has P w K mg base "_law_is_piece" (d + 1) ["_law_thing"] (spIsPc d)
  | 0 => has_false g F.kp b
  | d + 1 => ⟨f, fd, ok_l_is_piece d F B h_l_is_int (has_isPiece F B h_l_is_int g b d), g, F.kp, b⟩
end

set_option Elab.async false
set_option linter.all false
set_option maxRecDepth 100000
set_option maxHeartbeats 4000000

open PySem PySem.Spec PyProof.Rows L2 RT
section
variable {P : Program} {w : World} {K : PySem.W.Frag} {mg : Str → Option Value} {base : Heap}

local macro_rules | `(tactic| walk_at "s") => `(tactic| (first
  | (with_reducible refine r_dnew ?_)
  | (with_reducible refine r_dget2 ?_)
  | (with_reducible refine r_dget ?_)
  | (with_reducible refine r_dput ?_)
  | (with_reducible refine r_dsetd ?_)
  | ((with_reducible refine JarAt.isD (n := ?nn) (c := ?cc) ?hh ?_); (case hh => assumption))
  ))

end


set_option Elab.async false
set_option linter.all false
set_option maxRecDepth 100000
set_option maxHeartbeats 8000000
set_option pp.deepTerms false
set_option pp.deepTerms.threshold 12
set_option pp.maxSteps 1200

open PySem PySem.Spec PyProof.Rows L2 RT
def spDrawable : Sp := fun vs H Q _ => ∃ b, vs = [.ref b] ∧ Bag H b ∧ ∀ j c H', H j = none → But b H H' → Bag H' b → JarAt H' j 13 c → (∀ k, (c k).natAbs ≤ 120) → (∀ k, c k ≠ 0 → -60 ≤ k ∧ k ≤ 60) → Q (.ref j) H'
/-- the dict at j: at most n entries, small numbers, small powers -/
def JB (H : Hp) (j : Addr) (n : Nat) : Prop := ∃ c, JarAt H j n c ∧ (∀ k, (c k).natAbs ≤ 120) ∧ (∀ k, c k ≠ 0 → -60 ≤ k ∧ k ≤ 60)
theorem JB.but {H H' : Hp} {j b : Addr} {n : Nat} (h : JB H j n) (ne : j ≠ b) (s : But b H H') : JB H' j n := let ⟨c, e, r⟩ := h; ⟨c, e.but ne s, r⟩
theorem JB.dput {H : Hp} {j : Addr} {n : Nat} (h : JB H j n) {k v : Int} (hn : n ≤ 1000000) (v0 : -120 ≤ v) (v1 : v ≤ 120) (k0 : -60 ≤ k) (k1 : k ≤ 60) :
    ∃ H', DPut H j (.int k) (.int v) H' ∧ But j H H' ∧ JB H' j (n + 1) := by
  obtain ⟨c, hj, c1, c2⟩ := h
  obtain ⟨H', p1, b1, _, j1⟩ := hj.dput (k := k) (v := v) hn
  refine ⟨H', p1, b1, _, j1, fun x => ?_, fun x hx => ?_⟩
  · unfold addAt
    split
    · omega
    · exact c1 x
  · unfold addAt at hx
    split at hx
    · omega
    · exact c2 x hx
theorem but_fresh {H H1 H2 : Hp} {b j : Addr} (h : But b H H1) (n : H j = none) (s : But j H1 H2) : But b H H2 := fun x o nx e => s x o (ne_of_none e n) (h x o nx e)
theorem bag_but {H H' : Hp} {b j : Addr} (h : Bag H b) (n : b ≠ j) (s : But j H H') : Bag H' b := let ⟨x, y, z, e, r⟩ := h; ⟨x, y, z, s _ _ n e, r⟩
section
variable {P : Program} {w : World} {K : PySem.W.Frag} {mg : Str → Option Value} {base : Heap} {C : Addr}

local macro_rules | `(tactic| walk_at "s") => `(tactic| (first
  | (with_reducible refine r_dnew ?_)
  | (with_reducible refine r_dget2 ?_)
  | (with_reducible refine r_dget ?_)
  | (with_reducible refine r_dput ?_)
  | (with_reducible refine r_dsetd ?_)
  | ((with_reducible refine JarAt.isD (n := ?nn) (c := ?cc) ?hh ?_); (case hh => assumption))
  ))

local macro_rules | `(tactic| walk_at "s") => `(tactic| (first
  | (with_reducible refine r_prop ?_)
  | (with_reducible refine r_meth ?_)
  | (with_reducible refine r_make ?_)
  | (with_reducible refine r_fld ?_)
  | (with_reducible refine r_sfld ?_)
  | (with_reducible refine r_iOwn ?_)
  | ((with_reducible refine u_rowsAt (mg := ?mm) (C := ?CC) (dx := ?dd) (fv := ?vv) ?tt ?hh ?_); (case tt => assumption); (case hh => walk_at "hp"))
  | ((with_reducible refine r_isPoly (mg := ?mm) (dx := ?dd) (fs := ?ff) ?tt ?hh ?_); (case tt => assumption); (case hh => walk_at "hp"))
  | ((with_reducible refine r_isPolyI (mg := ?mm) ?tt ?_); (case tt => assumption))
  | ((with_reducible refine r_polyInt (mg := ?mm) (C := ?CC) (dx := ?dd) (fs := ?ff) ?tt ?hh ?_); (case tt => assumption); (case hh => walk_at "hp"))
  ))

local macro_rules | `(tactic| walk_at "s") => `(tactic| (first
  | (with_reducible refine rl_disp ?_)
  | (with_reducible refine rl_pc ?_)
  | (with_reducible refine rl_pn ?_)
  ))
theorem ok_l_drawable {f : Addr} {fd : FuncData} (F : Fun K "_law_drawable" "_law_drawable" s_l_drawable f fd) (bRange : mg "range" = none) (bLen : mg "len" = none) (h_l_pick : Has P w K mg base "_law_pick" 1 ["_law_bag", "_law_many"] spPick) : FnOk P w K mg base CX0 2 f fd ["_law_bag"] spDrawable := by
  refine F.ok sc_l_drawable (fun vs H Q E h => ?_) (fun cdv A outer s H vs Q E hr h => ?_)
  · obtain ⟨b, rfl, _⟩ := h
    rfl
  · obtain ⟨b, rfl, hb, k⟩ := h
    refine ⟨_, (pss_cons (ps_set (i := 1) sc_l_drawable.nd rfl (.inl rfl) pe_dnewK)
    (pss_cons (ps_set (i := 2) sc_l_drawable.nd rfl (.inl rfl) (pe_ix (ix_listK (K := K)) (pe_lst (pa_cons pe_int (pa_cons pe_int (pa_cons pe_int pa_nil)))) (pe_callH h_l_pick (hr.mono (by first | decide | omega)) (pa_cons (pv 0) (pa_cons pe_int pa_nil))) (fun _ _ => rfl)))
    (pss_cons (ps_if (pt_cmpR op_eq (pe_callH h_l_pick (hr.mono (by first | decide | omega)) (pa_cons (pv 0) (pa_cons pe_int pa_nil))) pe_int (nomark _))
    (pss_cons (ps_dput (hu_of hr) (pv 1) (pe_op op_sub (pe_callH h_l_pick (hr.mono (by first | decide | omega)) (pa_cons (pv 0) (pa_cons (pe_op op_add (pe_op op_mul pe_int (pv 2)) pe_int) pa_nil))) (pv 2)) (pe_op op_sub (pe_callH h_l_pick (hr.mono (by first | decide | omega)) (pa_cons (pv 0) (pa_cons pe_int pa_nil))) pe_int) rfl)
    (pss_cutM (ps_dput (hu_of hr) (pv 1) (pe_op op_sub (pe_callH h_l_pick (hr.mono (by first | decide | omega)) (pa_cons (pv 0) (pa_cons (pe_op op_add (pe_op op_mul pe_int (pv 2)) pe_int) pa_nil))) (pv 2)) (pe_op op_mul (pe_op op_sub pe_int (pe_op op_mul pe_int (pe_callH h_l_pick (hr.mono (by first | decide | omega)) (pa_cons (pv 0) (pa_cons pe_int pa_nil))))) (pe_callH h_l_pick (hr.mono (by first | decide | omega)) (pa_cons (pv 0) (pa_cons pe_int pa_nil)))) rfl)
    (pss_cons (ps_if (pt_cmpR op_eq (pe_callB call_lenD (by rfl) bLen PySem.boot_len (pa_cons (pv 1) pa_nil)) pe_int (nomark _))
    (pss_one (ps_set (i := 1) sc_l_drawable.nd rfl (.inl rfl) (pe_disp (pps_cons (pe_op op_sub pe_int (pv 2)) (pe_op op_mul (pe_op op_sub pe_int (pe_op op_mul pe_int (pe_callH h_l_pick (hr.mono (by first | decide | omega)) (pa_cons (pv 0) (pa_cons pe_int pa_nil))))) (pe_op op_add pe_int (pe_callH h_l_pick (hr.mono (by first | decide | omega)) (pa_cons (pv 0) (pa_cons pe_int pa_nil))))) pps_nil) rfl rfl (fun h => nomatch h) (by decide))))
    pss_nil)
    (pss_one (ps_ret (pv 1))))))
    pss_nil)
    (pss_cons (ps_for PassesOwn.never rfl (pi_range1 (by rfl) bRange (pa_cons (pe_callH h_l_pick (hr.mono (by first | decide | omega)) (pa_cons (pv 0) (pa_cons pe_int pa_nil))) pa_nil)) (pg_name (i := 3) sc_l_drawable.nd rfl (.inl rfl))
    (pss_cons (ps_set (i := 4) sc_l_drawable.nd rfl (.inl rfl) (pe_ix (ix_listK (K := K)) (pe_lst (pa_cons pe_int (pa_cons (pe_un un_neg pe_int) (pa_cons (pe_op op_sub (pe_callH h_l_pick (hr.mono (by first | decide | omega)) (pa_cons (pv 0) (pa_cons pe_int pa_nil))) pe_int) (pa_cons (pe_op op_sub (pe_callH h_l_pick (hr.mono (by first | decide | omega)) (pa_cons (pv 0) (pa_cons pe_int pa_nil))) pe_int) pa_nil))))) (pe_callH h_l_pick (hr.mono (by first | decide | omega)) (pa_cons (pv 0) (pa_cons pe_int pa_nil))) (fun _ _ => rfl)))
    (pss_one (ps_dput (hu_of hr) (pv 1) (pe_op op_sub (pe_callH h_l_pick (hr.mono (by first | decide | omega)) (pa_cons (pv 0) (pa_cons (pe_op op_add (pe_op op_mul pe_int (pv 2)) pe_int) pa_nil))) (pv 2)) (pv 4) rfl))))
    (pss_one (ps_ret (pv 1))))))), ?_⟩
    walk_at "go"
    intro j nj
    have jb : j ≠ b := hb.ne nj
    have b0 := hb.keep nj (o := .dK [])
    have hj0 : JarAt (upd H j (.dK [])) j 0 (fun _ => 0) := JarAt.new
    have bu0 : But b H (upd H j (.dK [])) := Same.but (Same.new0 nj) b
    generalize upd H j (.dK []) = H0 at *
    walk_at "go"
    intro l3 nl3
    have b1 := b0.keep nl3 (o := .lst [.int 4, .int 12, .int 60])
    have el3 : upd H0 l3 (.lst [.int 4, .int 12, .int 60]) l3 = some (.lst [.int 4, .int 12, .int 60]) := upd_same
    have hj1 := hj0.keep (o := .lst [.int 4, .int 12, .int 60]) nl3
    have l3b := b0.ne nl3
    have bu1 := bu0.new nl3 (o := .lst [.int 4, .int 12, .int 60])
    generalize upd H0 l3 (.lst [.int 4, .int 12, .int 60]) = H1 at *
    walk_at "go"
    refine u_pick b1 (by decide) (by decide) fun r1 H2 r10 r11 bu2 b2 => ?_
    have el2 := bu2 _ _ l3b el3
    have hj2 : JarAt H2 j 0 (fun _ => 0) := hj1.but jb bu2
    obtain ⟨far, ef, f0, f1⟩ : ∃ far : Int, atI [V.int 4, V.int 12, V.int 60] r1 = some (.int far) ∧ 4 ≤ far ∧ far ≤ 60 := by
      rcases (by omega : r1 = 0 ∨ r1 = 1 ∨ r1 = 2) with rfl | rfl | rfl
      · exact ⟨_, rfl, by omega, by omega⟩
      · exact ⟨_, rfl, by omega, by omega⟩
      · exact ⟨_, rfl, by omega, by omega⟩
    walk_at "go"
    refine r_ixL (.of el2) ef ?_
    have buA := bu1.trans bu2
    walk_at "go"
    refine u_pick b2 (by decide) (by decide) fun r2 H3 r20 r21 bu3 b3 => ?_
    have hj3 : JarAt H3 j 0 (fun _ => 0) := hj2.but jb bu3
    have buB := buA.trans bu3
    clear buA bu3 bu2 bu1 bu0 b1 b2 b0 hj0 hj1 hj2 el2 el3 l3b nl3
    walk_at "go"
    have J0 : JB H3 j 0 := ⟨_, hj3, fun k => by simp, fun k h => absurd rfl h⟩
    clear hj3
    refine r_iteD (fun z => ?_) (fun z => ?_)
    · walk_at "go"
      refine u_pick b3 (by decide) (by decide) fun r3 H4 r30 r31 bu4 b4 => ?_
      walk_at "go"
      refine u_pick b4 (by omega) (by omega) fun r4 H5 r40 r41 bu5 b5 => ?_
      have bu45 := bu4.trans bu5
      walk_at "go"
      have J5 := J0.but jb bu45
      obtain ⟨H6, p6, bj6, J6⟩ := J5.dput (k := r4 - far) (v := r3 - 60) (by decide) (by omega) (by omega) (by omega) (by omega)
      have b6 := bag_but b5 (Ne.symm jb) bj6
      have buC : But b H H6 := but_fresh (buB.trans bu45) nj bj6
      refine ⟨j, H6, rfl, p6, ?_⟩
      clear J5 bu45 bj6 b5 b4 b3 J0 buB bu4 bu5
      walk_at "go"
      refine r_cut (fun σ H' => σ = [some (.ref b), some (.ref j), some (.int far), none, none] ∧ But b H H' ∧ Bag H' b ∧ JB H' j 2) ?_ ?_
      · walk_at "go"
        refine u_pick b6 (by decide) (by decide) fun r5 H7 r50 r51 bu7 b7 => ?_
        walk_at "go"
        refine u_pick b7 (by decide) (by decide) fun r6 H8 r60 r61 bu8 b8 => ?_
        walk_at "go"
        refine u_pick b8 (by omega) (by omega) fun r7 H9 r70 r71 bu9 b9 => ?_
        have bu79 := (bu7.trans bu8).trans bu9
        have v1 : -60 ≤ (1 - 2 * r5) * r6 ∧ (1 - 2 * r5) * r6 ≤ 60 := by
          rcases (by omega : r5 = 0 ∨ r5 = 1) with rfl | rfl <;> omega
        obtain ⟨Ha, pa, bja, Ja⟩ := (J6.but jb bu79).dput (k := r7 - far) (v := (1 - 2 * r5) * r6) (by decide) (by omega) (by omega) (by omega) (by omega)
        walk_at "go"
        refine ⟨j, Ha, rfl, pa, ?_⟩
        exact ⟨rfl, but_fresh (buC.trans bu79) nj bja, bag_but b9 (Ne.symm jb) bja, Ja⟩
      · rintro σ Ha ⟨rfl, bua, ba, Ja⟩
        obtain ⟨c, ⟨kvs, ek, hk, hl, hc⟩, c1, c2⟩ := Ja
        have hjr : JarAt Ha j 2 c := ⟨kvs, ek, hk, hl, hc⟩
        walk_at "go"
        refine ⟨j, kvs, rfl, ek, ?_⟩
        walk_at "go"
        refine r_iteD (fun y => ?_) (fun y => ?_)
        · walk_at "go"
          intro d nd
          have bd0 := ba.keep nd (o := .dK [])
          have bud := bua.new nd (o := .dK [])
          have db := ba.ne nd
          have ndH : H d = none := by
            cases e : H d with
            | none => rfl
            | some o =>
              by_cases z : d = b
              · exact absurd z db
              · have := bua _ _ z e
                rw [nd] at this
                cases this
          have ed : upd Ha d (.dK []) d = some (.dK []) := upd_same
          generalize upd Ha d (.dK []) = Hb at *
          walk_at "go"
          refine u_pick bd0 (by decide) (by decide) fun r5 H7 r50 r51 bu7 b7 => ?_
          walk_at "go"
          refine u_pick b7 (by decide) (by decide) fun r6 H8 r60 r61 bu8 b8 => ?_
          have ed8 := (bu7.trans bu8) _ _ db ed
          have bu8' := bud.trans (bu7.trans bu8)
          have v1 : -120 ≤ (1 - 2 * r5) * (1 + r6) ∧ (1 - 2 * r5) * (1 + r6) ≤ 120 := by
            rcases (by omega : r5 = 0 ∨ r5 = 1) with rfl | rfl <;> omega
          walk_at "go"
          refine ⟨ed8, [(.inl (1 - far), .int ((1 - 2 * r5) * (1 + r6)))], rfl, by simp, ?_⟩
          have hjd : JarAt (upd H8 d (.dK (mergeK [] [(.inl (1 - far), .int ((1 - 2 * r5) * (1 + r6)))]))) d 1 (fun x => if x = 1 - far then (1 - 2 * r5) * (1 + r6) else 0) := by
            refine ⟨[(.inl (1 - far), .int ((1 - 2 * r5) * (1 + r6)))], upd_same, JarK.nil.put _ _, by simp, fun x => ?_⟩
            exact (cfK_put [] (1 - far) _ x).trans rfl
          have bu9 : But b H (upd H8 d (.dK (mergeK [] [(.inl (1 - far), .int ((1 - 2 * r5) * (1 + r6)))]))) := but_fresh bu8' ndH (But.self (But.refl d H8))
          have b9 : Bag (upd H8 d (.dK (mergeK [] [(.inl (1 - far), .int ((1 - 2 * r5) * (1 + r6)))]))) b := bag_but b8 (Ne.symm db) (But.self (But.refl d H8))
          walk_at "go"
          refine k d _ _ ndH bu9 b9 (hjd.mono (by decide)) (fun x => ?_) (fun x hx => ?_)
          · split <;> omega
          · split at hx
            · omega
            · exact absurd rfl hx
        · walk_at "go"
          exact k j c Ha nj bua ba (hjr.mono (by decide)) c1 c2
    · walk_at "go"
      refine u_pick b3 (by decide) (by decide) fun r3 H4 r30 r31 bu4 b4 => ?_
      have J4 := J0.but jb bu4
      have bu4 := buB.trans bu4
      clear b3 buB J0
      walk_at "go"
      refine u_for1 ⟨by omega, by omega⟩ (fun i σ H' => ∃ y3 y4 : Option V, σ = [some (.ref b), some (.ref j), some (.int far), y3, y4] ∧ But b H H' ∧ Bag H' b ∧ JB H' j i) ⟨_, _, rfl, bu4, b4, J4⟩ ?_ ?_
      · rintro i σ H' hi ⟨y3, y4, rfl, bui, bi, Ji⟩
        walk_at "go"
        refine u_pick bi (by decide) (by decide) fun r5 H7 r50 r51 bu7 b7 => ?_
        walk_at "go"
        refine u_pick b7 (by decide) (by decide) fun r6 H8 r60 r61 bu8 b8 => ?_
        walk_at "go"
        intro l4 nl4
        have b9 := b8.keep nl4 (o := .lst [.int 1, .int (-1), .int (r5 - 3), .int (r6 - 10)])
        have l4b := b8.ne nl4
        have bu9 := (bu7.trans bu8).new nl4 (o := .lst [.int 1, .int (-1), .int (r5 - 3), .int (r6 - 10)])
        have el4 : upd H8 l4 (.lst [.int 1, .int (-1), .int (r5 - 3), .int (r6 - 10)]) l4 = some (.lst [.int 1, .int (-1), .int (r5 - 3), .int (r6 - 10)]) := upd_same
        generalize upd H8 l4 (.lst [.int 1, .int (-1), .int (r5 - 3), .int (r6 - 10)]) = H9 at *
        walk_at "go"
        refine u_pick b9 (by decide) (by decide) fun r7 Hb r70 r71 bub bb => ?_
        have el5 := bub _ _ l4b el4
        obtain ⟨v, ev, v0, v1⟩ : ∃ v : Int, atI [V.int 1, V.int (-1), V.int (r5 - 3), V.int (r6 - 10)] r7 = some (.int v) ∧ -120 ≤ v ∧ v ≤ 120 := by
          rcases (by omega : r7 = 0 ∨ r7 = 1 ∨ r7 = 2 ∨ r7 = 3) with rfl | rfl | rfl | rfl
          · exact ⟨_, rfl, by omega, by omega⟩
          · exact ⟨_, rfl, by omega, by omega⟩
          · exact ⟨_, rfl, by omega, by omega⟩
          · exact ⟨_, rfl, by omega, by omega⟩
        walk_at "go"
        refine r_ixL (.of el5) ev ?_
        walk_at "go"
        refine u_pick bb (by omega) (by omega) fun r8 Hc r80 r81 buc bc => ?_
        have buAll := bu9.trans (bub.trans buc)
        obtain ⟨Hd, pd, bjd, Jd⟩ := (Ji.but jb buAll).dput (k := r8 - far) (v := v) (by omega) v0 v1 (by omega) (by omega)
        walk_at "go"
        refine ⟨j, Hd, rfl, pd, ?_⟩
        exact ⟨_, _, rfl, but_fresh (bui.trans buAll) nj bjd, bag_but bc (Ne.symm jb) bjd, Jd⟩
      · rintro σ H' ⟨y3, y4, rfl, bui, bi, c, hj, c1, c2⟩
        walk_at "go"
        exact k j c H' nj bui bi (hj.mono (by omega)) c1 c2
end

set_option Elab.async false
set_option linter.all false
set_option maxRecDepth 100000
set_option maxHeartbeats 4000000

open PySem PySem.Spec PyProof.Rows L2 RT
theorem same_pr4 {H : Hp} {p : Prog} {d : Nat} {a b : Addr} (h : PrIs H a p) (h' : PrIs H b p) (hw : Wf BC BC d p) (hl : p.len ≤ 4000) : SameV H (2 * d + 3) (.ref a) (.ref b) := by
  obtain ⟨xs, hx, hp⟩ := h
  obtain ⟨ys, hy, hq⟩ := h'
  have l := hp.length
  have l' := hq.length
  exact .inr (.inr ⟨a, b, xs, ys, rfl, rfl, hx, hy, by omega, by omega, fun i u v hu hv => same_at hp hq hw i u v hu hv⟩)
section
variable {P : Program} {w : World} {K : PySem.W.Frag} {mg : Str → Option Value} {base : Heap}

/-- a program to be parted -/
def Cuts (H : Hp) (a : Addr) (p : Prog) : Prop := PrIs H a p ∧ WfL 300 BC BC 12 p ∧ 1 ≤ p.len ∧ p.len ≤ 300
theorem Cuts.tk {H H' : Hp} {a : Addr} {p : Prog} (h : Cuts H a p) (t : Tk H H') : Cuts H' a p := ⟨h.1.tk t, h.2⟩
end

set_option Elab.async false
set_option linter.all false
set_option maxRecDepth 100000
set_option maxHeartbeats 4000000

open PySem PySem.Spec PyProof.Rows L2 RT
/-- _law_walked of a tuple -/
def spWalkedT : Sp := fun vs H Q _ => ∃ (a : Addr) (xs : List V) (p : Prog), vs = [.ref a] ∧ H a = some (.tup xs) ∧ PrAt H p xs ∧ Wf BC BC 0 p ∧ p.len ≤ 90000 ∧
  ∀ r l pl H', Same H H' → H' r = some (.tup [.int p.head, .ref l]) → PlaceAt H' l pl → IsPlace pl (Prog.wcf 0 p) → Q (.ref r) H'
section
variable {P : Program} {w : World} {K : PySem.W.Frag} {mg : Str → Option Value} {base : Heap}

local macro_rules | `(tactic| walk_at "s") => `(tactic| (first
  | (with_reducible refine r_dnew ?_)
  | (with_reducible refine r_dget2 ?_)
  | (with_reducible refine r_dget ?_)
  | (with_reducible refine r_dput ?_)
  | (with_reducible refine r_dsetd ?_)
  | ((with_reducible refine JarAt.isD (n := ?nn) (c := ?cc) ?hh ?_); (case hh => assumption))
  ))

theorem ok_l_walkedT {f : Addr} {fd : FuncData} (F : Fun K "_law_walked" "_law_walked" s_l_walked f fd) (B : Bl mg) (bS : mg "sorted" = none) (h_l_terms_of : Has P w K mg base "_law_terms_of" 1 ["_law_jar"] spTerms) : FnOk P w K mg base CX0 2 f fd ["_law_row"] spWalkedT := by
  refine F.ok sc_l_walked (fun vs H Q E h => ?_) (fun cdv A outer s H vs Q E hr h => ?_)
  · obtain ⟨a, xs, p, rfl, _⟩ := h
    rfl
  · obtain ⟨a, xs, p, rfl, ha, hp, hw, hl, k⟩ := h
    refine ⟨_, (pss_cons (ps_set (i := 1) sc_l_walked.nd rfl (.inl rfl) pe_int)
    (pss_cons (ps_set (i := 2) sc_l_walked.nd rfl (.inr rfl) pe_dnewK)
    (pss_cons (ps_for PassesOwn.never rfl (pi_tup (pv 0)) (pg_name (i := 3) sc_l_walked.nd rfl (.inl rfl))
    (pss_one (ps_if (pt_cmpR op_eq (pe_ix (ix_tupK (K := K)) (pv 3) pe_int (fun _ _ => rfl)) pe_str (nomark _))
    (pss_one (ps_set (i := 1) sc_l_walked.nd rfl (.inl rfl) (pe_op op_add (pv 1) (pe_ix (ix_tupK (K := K)) (pv 3) pe_int (fun _ _ => rfl)))))
    (pss_cons (ps_set (i := 4) sc_l_walked.nd rfl (.inl rfl) (pe_dsetd (pv 2) (pe_ix (ix_tupK (K := K)) (pv 3) pe_int (fun _ _ => rfl)) pe_dnewK ⟨rfl, rfl, rfl, rfl⟩))
    (pss_one (ps_dput (hu_of hr) (pv 4) (pv 1) (pe_op op_add (pe_dget2 (hu_of hr) (pv 4) (pv 1) pe_int ⟨rfl, rfl, rfl, rfl⟩) (pe_op op_sub pe_int (pe_op op_mul pe_int (pe_callTy call_intB (by rfl) B.b_int (by decide +kernel) (pa_cons (pe_cmpR (op_in_seqK (K := K)) (pe_ix (ix_tupK (K := K)) (pv 3) pe_int (fun _ _ => rfl)) (pe_lst (pa_cons pe_str (pa_cons pe_str pa_nil))) (by rfl)) pa_nil))))) rfl))))))
    (pss_one (ps_ret (pe_tup (pa_cons (pv 1) (pa_cons (pe_lc (own := [("_law_who", 5)]) rfl sc_l_walked.nd (pi_list (pe_callB call_sortedDS (by rfl) bS (by decide +kernel) (pa_cons (pv 2) pa_nil))) (blkOk_by (N := ["_law_row", "_law_now", "_law_spot", "_law_part", "_law_jar", "_law_who"]) (sc := defScope s_l_walked) (by decide +kernel)) (fun _ _ _ _ _ => (pg_name (i := 5) sc_l_walked.nd rfl (.inl rfl))) (fun _ _ _ _ _ => pts_one (pt_cmpR (op_neDK (K := K) hr.units) (pe_callH h_l_terms_of (hr.mono (by first | decide | omega)) (pa_cons (pe_dget (hu_of hr) (pv 2) (pv 5) (fun _ _ => rfl)) pa_nil)) (pe_lst pa_nil) (nomark _))) (fun _ _ _ _ _ => (pe_tup (pa_cons (pv 5) (pa_cons (pe_callH h_l_terms_of (hr.mono (by first | decide | omega)) (pa_cons (pe_dget (hu_of hr) (pv 2) (pv 5) (fun _ _ => rfl)) pa_nil)) pa_nil))))) pa_nil)))))))), ?_⟩
    walk_at "go"
    intro sp nsp
    walk_at "go"
    have ha0 : upd H sp (.dK []) a = some (.tup xs) := h_keep ha nsp
    have t0 : Tk H (upd H sp (.dK [])) := (Tk.refl H).new nsp
    have tk0 : ∀ H', Same H H' → Tk (upd H sp (.dK [])) H' := fun H' sm b ys e => by
      by_cases eb : b = sp
      · subst eb; rw [upd_same] at e; cases e
      · rw [upd_ne eb] at e; exact sm _ _ e
    refine u_forPr ha0 (hp.tk t0) (fun r σ H' => ∃ (now : Int) (N : Nat) (c : Str → Int → Int) (ws : List (Str × Addr)) (y3 y4 : Option V), σ = [some (.ref a), some (.int now), some (.ref sp), y3, y4, none] ∧ Wf BC BC 0 r ∧ Spot H H' sp N c ws ∧
        (∀ n k, c n k + Prog.wcf now r n k = Prog.wcf 0 p n k) ∧ now + r.head = p.head ∧ N + r.len ≤ p.len) ?_ ?_ ?_ ?_
    · exact ⟨0, 0, fun _ _ => 0, [], none, none, rfl, hw, Spot.empty nsp, fun n k => Int.zero_add _, Int.zero_add _, by omega⟩
    · rintro r σ H' ⟨now, N, c, ws, y3, y4, rfl, _, hs, _, _, _⟩
      exact tk0 _ hs.same
    · rintro x r r' σ H' hf ⟨now, N, c, ws, y3, y4, rfl, hw', hs, hc, hh, hN⟩
      cases r with
      | nil => exact hf.elim
      | step w' n r =>
        obtain ⟨d, rfl, h1, rfl⟩ := hf
        obtain ⟨w1, w2, w3⟩ := WfL.step_iff.mp hw'
        obtain ⟨n1, n2, n3⟩ := word_ne w1
        rw [Prog.len] at hN
        walk_at "go"
        refine r_isD hs.at_ ?_
        walk_at "go"
        intro e ne
        refine hs.setd w2 ne fun ws' j H1 hs1 m1 fr1 => ?_
        have h1' : H1 d = some (.tup [.str w', .str n]) := fr1 _ _ (ne_of h1 hs.at_ (by intro z; cases z)) h1
        have hj1 := hs1.jars _ m1
        walk_at "go"
        walk_at "go"
        obtain ⟨o, g1, g2⟩ := hj1.dget0 now
        refine ⟨o, g1, ?_⟩
        rw [g2]
        walk_at "go"
        intro q nq
        refine ⟨q, _, rfl, .inl (.of upd_same), rfl, rfl, ?_⟩
        rw [if_neg Bool.false_ne_true, inWord w1]
        refine ⟨_, rfl, ?_⟩
        walk_at "go"
        obtain ⟨H4, p1, b1, f1, j1⟩ := (hj1.keep (o := .lst [.str "back", .str "slip"]) nq).dput (k := now) (v := c n now + (1 - 2 * (if decide (w' = "back" ∨ w' = "slip") = true then 1 else 0))) (by omega)
        refine ⟨j, H4, rfl, p1, ?_⟩
        refine ⟨now, N + 1, _, ws', _, _, rfl, w3, (hs1.later (Same.new0 nq)).put m1 b1 j1, fun n' k' => ?_, ?_, by omega⟩
        · rw [← hc n' k', Prog.wcf]
          have es : (1 : Int) - 2 * (if decide (w' = "back" ∨ w' = "slip") = true then 1 else 0) = stepSign w' := by
            unfold stepSign
            by_cases hb : w' = "back" ∨ w' = "slip"
            · rw [if_pos hb, if_pos (decide_eq_true hb)]; rfl
            · rw [if_neg hb, if_neg (by simpa using hb)]; rfl
          rw [es]
          by_cases hnk : n' = n ∧ k' = now
          · obtain ⟨rfl, rfl⟩ := hnk
            rw [if_pos ⟨rfl, rfl⟩, if_pos ⟨rfl, rfl⟩]; omega
          · rw [if_neg hnk, if_neg (fun h => hnk ⟨h.1.symm, h.2.symm⟩)]; omega
        · rw [← hh, Prog.head]
      | turn t r =>
        obtain ⟨d, rfl, h1, rfl⟩ := hf
        obtain ⟨w1, w3⟩ := WfL.turn_iff.mp hw'
        walk_at "go"
        exact ⟨_, N, c, ws, _, _, rfl, w3, hs, hc, by rw [← hh, Prog.head]; omega, by rw [Prog.len] at hN; omega⟩
      | rep k' b r => exact hw'.elim
      | mir b r => exact hw'.elim
    · rintro σ H' ⟨now, N, c, ws, y3, y4, rfl, hw', hs, hc, hh, hN⟩
      have hcc : ∀ n k, c n k = Prog.wcf 0 p n k := fun n k => by rw [← hc n k, Prog.wcf, Int.add_zero]
      have hh : now = p.head := by rw [← hh, Prog.head, Int.add_zero]
      subst hh
      walk_at "go"
      refine ⟨sp, _, ws.map (·.1), rfl, .inl hs.at_, by simp [spotKvs], names_few (fun n hn => by obtain ⟨e, he, rfl⟩ := List.mem_map.mp hn; exact hs.name e he) hs.nd, fun ys u hys hsr nu => ?_⟩
      have hs1 := hs.later (Same.new0 (o := .lst (ys.map V.str)) nu)
      refine u_lcL (.of upd_same) (fun D i acc H2 => (∃ pl, PlaceL (· ≠ D) H2 acc pl ∧ (∀ e ∈ pl, Canon e.2 ∧ e.2 ≠ [] ∧ ∀ k, cof e.2 k = c e.1 k) ∧ (pl.map (·.1)).Sublist (ys.take i) ∧ (∀ n ∈ ys.take i, (∀ k, c n k = 0) ∨ n ∈ pl.map (·.1))) ∧ i ≤ ys.length ∧ Same (upd H' u (.lst (ys.map V.str))) H2) ?_ ?_ ?_ ?_
      · exact fun D hD => ⟨⟨[], rfl, by simp, by simp, by simp⟩, Nat.zero_le _, Same.new0 hD⟩
      · exact fun D i acc H2 _ _ ⟨_, _, s1⟩ => .of (s1 _ _ upd_same)
      · rintro D i x acc H2 hD hx hacc ⟨⟨pl, hpl, hcan, hsub, hall⟩, hi, s2⟩
        rw [List.getElem?_map] at hx
        cases hy : ys[i]? with
        | none => rw [hy] at hx; cases hx
        | some y =>
          rw [hy] at hx
          cases hx
          obtain ⟨hi2, ey⟩ := List.getElem?_eq_some_iff.mp hy
          have hs2 := hs1.later s2
          have et : ys.take (i + 1) = ys.take i ++ [y] := by rw [List.take_succ, hy]; rfl
          obtain ⟨j, hv, hm⟩ := spot_some (hys.mem_iff.mp (List.mem_of_getElem? hy))
          walk_at "go"
          refine ⟨rfl, ?_⟩
          walk_at "go"
          refine ⟨sp, _, rfl, hs2.dget hv, ?_⟩
          walk_at "go"
          refine ⟨j, N, c y, rfl, hs2.jars _ hm, by omega, fun l1 ts H3 nl1 s3 hts hcof hlen ht => ?_⟩
          walk_at "go"
          intro q2 nq2
          refine r_neT (ht.same (Same.new0 nq2)) (.none upd_same) ?_
          have s4 : Same H2 (upd H3 q2 (.lst [])) := Same.new s3 nq2
          generalize upd H3 q2 (.lst []) = H4 at *
          walk_at "go"
          refine r_iteN (fun hne => ?_) (fun hne => ?_)
          · walk_at "go"
            refine ⟨sp, _, rfl, (hs2.later s4).dget hv, ?_⟩
            walk_at "go"
            refine ⟨j, N, c y, rfl, (hs2.later s4).jars _ hm, by omega, fun l2 ts2 H5 nl2 s5 hts2 hcof2 hlen2 ht2 => ?_⟩
            walk_at "go"
            intro t nt
            have ets : ts2 = ts := hts2.ext hts fun k => (hcof2 k).trans (hcof k).symm
            subst ets
            have hacc5 : H5 D = some (.lst acc) := s5 _ _ (s4 _ _ hacc)
            have al : acc.length ≤ i := by
              rw [hpl.length, ← List.length_map (f := (·.1))]
              exact Nat.le_trans hsub.length_le (by rw [List.length_take]; omega)
            have few : ys.length < 64 := by
              rw [hys.length_eq]
              exact names_few (fun n hn => by obtain ⟨e, he, rfl⟩ := List.mem_map.mp hn; exact hs.name e he) hs.nd
            have nl2D : l2 ≠ D := by
              rintro rfl
              rw [s4 _ _ hacc] at nl2
              cases nl2
            refine u_push (h_keep hacc5 nt) (by omega) ⟨⟨pl ++ [(y, ts2)], ?_, ?_, ?_, ?_⟩, hi2, Same.put (Same.new (s2.trans (s4.trans s5)) nt) hD⟩
            · have hh1 : PlaceL (· ≠ D) (upd H5 t (.tup [.str y, .ref l2])) (acc ++ [.ref t]) (pl ++ [(y, ts2)]) := (hpl.same (s4.trans (Same.new s5 nt))).app ⟨t, l2, (y, ts2), [], rfl, rfl, upd_same, nl2D, ht2.same (Same.new0 nt), rfl⟩
              exact hh1.lst (h_keep hacc5 nt)
            · intro e he
              rcases List.mem_append.mp he with he | he
              · exact hcan e he
              · rw [List.mem_singleton.mp he]
                exact ⟨hts2, hne, hcof2⟩
            · rw [et, List.map_append]
              exact hsub.append (List.Sublist.refl _)
            · intro n hn
              rw [et] at hn
              rw [List.map_append]
              rcases List.mem_append.mp hn with hn | hn
              · rcases hall n hn with h | h
                · exact .inl h
                · exact .inr (List.mem_append.mpr (.inl h))
              · exact .inr (List.mem_append.mpr (.inr hn))
          · walk_at "go"
            refine u_skip (s4 _ _ hacc) ⟨⟨pl, hpl.same s4, hcan, ?_, ?_⟩, hi2, s2.trans s4⟩
            · rw [et]
              exact hsub.trans (List.sublist_append_left _ _)
            · intro n hn
              rw [et] at hn
              rcases List.mem_append.mp hn with hn | hn
              · exact hall n hn
              · rw [List.mem_singleton.mp hn]
                exact .inl fun k => by rw [← hcof k, hne]; rfl
      · rintro D acc H2 hD hacc ⟨⟨pl, hpl, hcan, hsub, hall⟩, hi, s2⟩
        walk_at "go"
        intro r nr
        walk_at "go"
        rw [List.take_of_length_le (by simp)] at hsub hall
        have hnm : ∀ n ∈ ws.map (·.1), IsName n := fun n hn => by obtain ⟨e, he, rfl⟩ := List.mem_map.mp hn; exact hs.name e he
        have hny : ∀ n ∈ ys, IsName n := fun n hn => hnm n (hys.mem_iff.mp hn)
        refine k r D pl _ (hs.same.trans ((Same.new0 nu).trans (Same.new s2 nr))) upd_same ⟨acc, h_keep hacc nr, (hpl.same (Same.new0 nr)).all⟩ ⟨fun e he => ?_, fun e he => ?_, ?_, fun n hn k => ?_⟩
        · obtain ⟨x1, x2, x3⟩ := hcan e he
          exact ⟨x1, x2, fun k => (x3 k).trans (hcc _ _)⟩
        · exact hny _ (hsub.subset (List.mem_map.mpr ⟨e, he, rfl⟩))
        · have hpw : (pl.map (·.1)).Pairwise fun a b => ncode a < ncode b := (sorted_names hny (hys.nodup_iff.mpr hs.nd) hsr).sublist hsub
          exact (List.pairwise_map (f := fun e : Str × Terms => e.1) (R := fun a b => ncode a < ncode b)).mp hpw
        · rw [← hcc]
          by_cases hm : n ∈ ys
          · rcases hall n hm with h | h
            · exact h k
            · exact absurd h hn
          · exact hs.none_ n (fun h => hm (hys.mem_iff.mpr h)) k
end

set_option Elab.async false
set_option linter.all false
set_option maxRecDepth 100000
set_option maxHeartbeats 8000000
set_option pp.deepTerms false
set_option pp.deepTerms.threshold 12
set_option pp.maxSteps 1200

open PySem PySem.Spec PyProof.Rows L2 RT
/-- drawing of what is let in -/
def spDrawing (C : Addr) : Sp := fun vs H Q _ => ∃ a ts nm, vs = [.ref a, .str nm] ∧ PolyAt C H a ts ∧ IsName nm ∧ absT ts + ts.length ≤ 3000 ∧ ∀ q H', Same H H' → PrIs H' q (drawP nm ts) → Q (.ref q) H'
def spDrawn (C : Addr) : Sp := fun vs H Q _ => ∃ a d nm ts n c, vs = [.ref a, .ref d, .str nm] ∧ PolyAt C H a ts ∧ JarAt H d n c ∧ (∀ k, cof ts k = c k) ∧ n ≤ 90000 ∧ IsName nm ∧ absT ts + ts.length ≤ 3000 ∧ Nar 100000 ts ∧ ∀ q H', Same H H' → PrIs H' q (drawP nm ts) → Q (.ref q) H'
theorem SameV.succD {H : Hp} : ∀ {n : Nat} {x y : V}, SameV H n x y → SameV H (n + 1) x y
  | 0, _, _, h => h.elim
  | n + 1, _, _, .inl h => .inl h
  | n + 1, _, _, .inr (.inl h) => .inr (.inl h)
  | n + 1, _, _, .inr (.inr ⟨a, b, xs, ys, h1, h2, h3, h4, h5, h6, h7⟩) => .inr (.inr ⟨a, b, xs, ys, h1, h2, h3, h4, h5, h6, fun i u v hu hv => (h7 i u v hu hv).succD⟩)
theorem SameV.leD {H : Hp} {n m : Nat} {x y : V} (h : SameV H n x y) (l : n ≤ m) : SameV H m x y := by
  induction l with
  | refl => exact h
  | step _ ih => exact ih.succD
section
variable {P : Program} {w : World} {K : PySem.W.Frag} {mg : Str → Option Value} {base : Heap} {C : Addr}

local macro_rules | `(tactic| walk_at "s") => `(tactic| (first
  | (with_reducible refine r_dnew ?_)
  | (with_reducible refine r_dget2 ?_)
  | (with_reducible refine r_dget ?_)
  | (with_reducible refine r_dput ?_)
  | (with_reducible refine r_dsetd ?_)
  | ((with_reducible refine JarAt.isD (n := ?nn) (c := ?cc) ?hh ?_); (case hh => assumption))
  ))

local macro_rules | `(tactic| walk_at "s") => `(tactic| (first
  | (with_reducible refine r_prop ?_)
  | (with_reducible refine r_meth ?_)
  | (with_reducible refine r_make ?_)
  | (with_reducible refine r_fld ?_)
  | (with_reducible refine r_sfld ?_)
  | (with_reducible refine r_iOwn ?_)
  | ((with_reducible refine u_rowsAt (mg := ?mm) (C := ?CC) (dx := ?dd) (fv := ?vv) ?tt ?hh ?_); (case tt => assumption); (case hh => walk_at "hp"))
  | ((with_reducible refine r_isPoly (mg := ?mm) (dx := ?dd) (fs := ?ff) ?tt ?hh ?_); (case tt => assumption); (case hh => walk_at "hp"))
  | ((with_reducible refine r_isPolyI (mg := ?mm) ?tt ?_); (case tt => assumption))
  | ((with_reducible refine r_polyInt (mg := ?mm) (C := ?CC) (dx := ?dd) (fs := ?ff) ?tt ?hh ?_); (case tt => assumption); (case hh => walk_at "hp"))
  ))

theorem ok_l_drawn {f : Addr} {fd : FuncData} (F : Fun K "_law_drawn" "_law_drawn" s_l_drawn f fd) (bAny : mg "any" = none) (bAll : mg "all" = none) (h_drawing : Has P w K mg base "drawing" 3 ["poly", "name"] (spDrawing C)) (hkr_drawing : HasKR P w K mg base "drawing" 3 ["poly", "name"] ["name", "poly"] (spDrawing C)) (h_l_is_piece : Has P w K mg base "_law_is_piece" 14 ["_law_thing"] (spIsPc 13)) (h_l_terms_of : Has P w K mg base "_law_terms_of" 1 ["_law_jar"] spTerms) (h_l_walkedT : Has P w K mg base "_law_walked" 2 ["_law_row"] spWalkedT) (h_l_same_piece : Has P w K mg base "_law_same_piece" 28 ["_law_found", "_law_due"] (spSame 28)) : FnOk P w K mg base CX0 29 f fd ["_law_poly", "_law_jar", "_law_who"] (spDrawn C) := by
  have h_l_walked := h_l_walkedT
  refine F.ok sc_l_drawn (fun vs H Q E h => ?_) (fun cdv A outer s H vs Q E hr h => ?_)
  · obtain ⟨a, d, nm, ts, n, c, rfl, _⟩ := h
    rfl
  · obtain ⟨a, d, nm, ts, n, c, rfl, ha, hd, ec, hn, nm1, lz, nar, k⟩ := h
    have canon : Canon ts := by obtain ⟨_, _, _, _, _, _, z⟩ := ha; exact z
    have nz : ∀ q ∈ ts, q.2 ≠ 0 := fun p hp => canon.nz p hp
    have c24 : (200000 : Int) ≤ BC := by decide +kernel
    have wf0 : Wf BC BC 0 (drawP nm ts) := drawP_wf nm1 (by omega) (by decide) nar
    have only := drawP_only nm ts
    have pl1 := drawP_len nm ts
    have pl0 := drawP_pos nm nz
    refine ⟨_, (pss_cons (ps_set (i := 3) sc_l_drawn.nd rfl (.inl rfl) (pe_callH h_drawing (hr.mono (by first | decide | omega)) (pa_cons (pv 0) (pa_cons (pv 2) pa_nil))))
    (pss_cons (ps_if (PW.pt (pw_or (pt_not (pt_val (pe_callH h_l_is_piece (hr.mono (by first | decide | omega)) (pa_cons (pv 3) pa_nil)))) (pw_or1 (pt_val (pe_callB (call_anyK (K := K)) (by rfl) bAny (by decide +kernel) (pa_cons (pe_lc (own := [("_law_part", 5)]) rfl sc_l_drawn.nd (pi_tup (pv 3)) (blkOk_by (N := ["_law_poly", "_law_jar", "_law_who", "_law_told", "_law_due", "_law_part"]) (sc := defScope s_l_drawn) (by decide +kernel)) (fun _ _ _ _ _ => (pg_name (i := 5) sc_l_drawn.nd rfl (.inl rfl))) (fun _ _ _ _ _ => pts_nil) (fun _ _ _ _ _ => (pe_cmpR (op_in_seqK (K := K)) (pe_ix (ix_tupK (K := K)) (pv 5) pe_int (fun _ _ => rfl)) (pe_lst (pa_cons pe_str (pa_cons pe_str pa_nil))) (by rfl)))) pa_nil))))))
    (pss_one (ps_ret pe_non))
    pss_nil)
    (pss_cutM (ps_if (pt_not (pt_val (pe_callB (call_allK (K := K)) (by rfl) bAll (by decide +kernel) (pa_cons (pe_lc (own := [("_law_part", 5)]) rfl sc_l_drawn.nd (pi_tup (pv 3)) (blkOk_by (N := ["_law_poly", "_law_jar", "_law_who", "_law_told", "_law_due", "_law_part"]) (sc := defScope s_l_drawn) (by decide +kernel)) (fun _ _ _ _ _ => (pg_name (i := 5) sc_l_drawn.nd rfl (.inl rfl))) (fun _ _ _ _ _ => pts_nil) (fun _ _ _ _ _ => (pe_or (pe_cmpR op_eq (pe_ix (ix_tupK (K := K)) (pv 5) pe_int (fun _ _ => rfl)) pe_str (nomark _)) (pe_one (pe_cmpR op_eq (pe_ix (ix_tupK (K := K)) (pv 5) pe_int (fun _ _ => rfl)) (pv 2) (nomark _)))))) pa_nil))))
    (pss_one (ps_ret pe_non))
    pss_nil)
    (pss_cons (ps_set (i := 4) sc_l_drawn.nd rfl (.inl rfl) (pe_lst (pa_cons (pe_tup (pa_cons (pv 2) (pa_cons (pe_callH h_l_terms_of (hr.mono (by first | decide | omega)) (pa_cons (pv 1) pa_nil)) pa_nil))) pa_nil)))
    (pss_cutM (ps_if (pt_cmpR (op_eqDK (K := K) hr.units) (pe_ix (ix_tupK (K := K)) (pe_ix (ix_listK (K := K)) (pv 4) pe_int (fun _ _ => rfl)) pe_int (fun _ _ => rfl)) (pe_lst pa_nil) (nomark _))
    (pss_cons (ps_set (i := 4) sc_l_drawn.nd rfl (.inl rfl) (pe_lst pa_nil))
    (pss_one (ps_if (pt_val (pe_callB (call_anyK (K := K)) (by rfl) bAny (by decide +kernel) (pa_cons (pe_lc (own := [("_law_part", 5)]) rfl sc_l_drawn.nd (pi_tup (pv 3)) (blkOk_by (N := ["_law_poly", "_law_jar", "_law_who", "_law_told", "_law_due", "_law_part"]) (sc := defScope s_l_drawn) (by decide +kernel)) (fun _ _ _ _ _ => (pg_name (i := 5) sc_l_drawn.nd rfl (.inl rfl))) (fun _ _ _ _ _ => pts_nil) (fun _ _ _ _ _ => (pe_cmpR op_ne (pe_ix (ix_tupK (K := K)) (pv 5) pe_int (fun _ _ => rfl)) pe_str (nomark _)))) pa_nil)))
    (pss_one (ps_ret pe_non))
    pss_nil)))
    pss_nil)
    (pss_cons (ps_if (PW.pt (pw_or (pt_cmpR (op_neDK (K := K) hr.units) (pe_ix (ix_tupK (K := K)) (pe_callH h_l_walked (hr.mono (by first | decide | omega)) (pa_cons (pv 3) pa_nil)) pe_int (fun _ _ => rfl)) (pv 4) (nomark _)) (pw_or1 (pt_not (pt_val (pe_callH h_l_same_piece (hr.mono (by first | decide | omega)) (pa_cons (pe_callHR hkr_drawing (hr.mono (by first | decide | omega)) (pk_cons (pv 2) (pk_cons (pv 0) pk_nil))) (pa_cons (pv 3) pa_nil))))))))
    (pss_one (ps_ret pe_non))
    pss_nil)
    (pss_one (ps_ret (pv 3))))))))), ?_⟩
    walk_at "go"
    refine ⟨a, ts, nm, rfl, ha, nm1, lz, fun q H1 s1 hq => ?_⟩
    walk_at "go"
    refine ⟨q, _, rfl, hq, WfL.mono (Int.le_refl _) (Int.le_refl _) (Nat.zero_le _) wf0, pl0, by omega, fun H2 s2 => ?_⟩
    obtain ⟨xs, exs, hxs⟩ := hq.tk (Tk.same s2)
    have lxs := hxs.length
    walk_at "go"
    refine u_lcT (.of exs) (fun D i acc H' => acc = List.replicate i (V.bl false) ∧ Same H2 H') ?_ ?_ ?_ ?_
    · exact fun D hD => ⟨rfl, Same.new0 hD⟩
    · exact fun D i acc H' _ _ ⟨_, s⟩ => .of (s _ _ exs)
    · rintro D i x acc H' hD hx hacc ⟨rfl, sm⟩
      obtain ⟨c', rfl, hcc⟩ := only_at only hxs hx
      have hi := (List.getElem?_eq_some_iff.mp hx).1
      obtain ⟨wd, ys, hc, hw⟩ : ∃ (wd : Str) (ys : List V), H' c' = some (.tup (.str wd :: ys)) ∧ (wd = "go" ∨ wd = "back" ∨ wd = "turn") := by
        rcases hcc with ⟨k, e⟩ | ⟨w', hw, e⟩
        · exact ⟨"turn", _, sm _ _ e, .inr (.inr rfl)⟩
        · exact ⟨w', _, sm _ _ e, hw.elim .inl fun z => .inr (.inl z)⟩
      walk_at "go"
      refine ⟨rfl, ?_⟩
      walk_at "go"
      refine r_ixT (.of hc) (lst_at0 rfl) ?_
      walk_at "go"
      intro L nL
      have hacc3 : upd H' L (.lst [.str "repeat", .str "mirror"]) D = some (.lst (List.replicate i (V.bl false))) := h_keep hacc nL
      walk_at "go"
      refine r_inRM upd_same hw ?_
      refine u_push hacc3 (by rw [List.length_replicate]; omega) ⟨?_, Same.put (sm.trans (Same.new0 nL)) hD⟩
      rw [List.replicate_succ']
    · rintro D acc H3 hD hacc ⟨rfl, s3⟩
      have hacc2 : H3 D = some (.lst ((List.replicate xs.length false).map V.bl)) := by rw [hacc, List.map_replicate]
      walk_at "go"
      refine r_any (.of hacc2) ?_
      have ea : (List.replicate xs.length false).any id = false := by
        rw [List.any_eq_false]
        intro x hx
        rw [List.eq_of_mem_replicate hx]
        decide
      rw [ea]
      walk_at "go"
      have s13 := (s1.trans s2).trans s3
      have exs3 := s3 _ _ exs
      have hxs3 := hxs.tk (Tk.same s3)
      have hd3 := hd.same s13
      have ha3 := ha.same s13
      clear hacc hacc2 ea s3 s2 hxs exs
      refine r_cut (fun σ H' => ∃ y4 y5 : Option V, σ = [some (.ref a), some (.ref d), some (.str nm), some (.ref q), y4, y5] ∧ Same H3 H') ?_ ?_
      · walk_at "go"
        refine u_lcT (.of exs3) (fun D i acc H' => acc = List.replicate i (V.bl true) ∧ Same H3 H') ?_ ?_ ?_ ?_
        · exact fun D hD => ⟨rfl, Same.new0 hD⟩
        · exact fun D i acc H' _ _ ⟨_, s⟩ => .of (s _ _ exs3)
        · rintro D i x acc H' hD hx hacc ⟨rfl, sm⟩
          obtain ⟨c', rfl, hcc⟩ := only_at only hxs3 hx
          have hi := (List.getElem?_eq_some_iff.mp hx).1
          have fin : LcPush D (fun D i acc H' => acc = List.replicate i (V.bl true) ∧ Same H3 H') i H' (V.bl true) := u_push hacc (by rw [List.length_replicate]; omega) ⟨by rw [List.replicate_succ'], Same.put sm hD⟩
          rcases hcc with ⟨kk, e⟩ | ⟨w', hw, e⟩
          · have e' := sm _ _ e
            walk_at "go"
            refine ⟨rfl, ?_⟩
            walk_at "go"
            exact fin
          · have e' := sm _ _ e
            rcases hw with rfl | rfl
            · walk_at "go"
              refine ⟨rfl, ?_⟩
              walk_at "go"
              rw [decide_eq_true (rfl : nm = nm)]
              exact fin
            · walk_at "go"
              refine ⟨rfl, ?_⟩
              walk_at "go"
              rw [decide_eq_true (rfl : nm = nm)]
              exact fin
        · rintro D acc H4 hD hacc ⟨rfl, s4⟩
          have hacc2 : H4 D = some (.lst ((List.replicate xs.length true).map V.bl)) := by rw [hacc, List.map_replicate]
          walk_at "go"
          refine r_all (.of hacc2) ?_
          have ea : (List.replicate xs.length true).all id = true := by
            rw [List.all_eq_true]
            intro x hx
            rw [List.eq_of_mem_replicate hx]
            rfl
          rw [ea]
          walk_at "go"
          exact ⟨_, _, rfl, s4⟩
      · rintro σ H4 ⟨y4, y5, rfl, s4⟩
        have exs4 := s4 _ _ exs3
        have hxs4 := hxs3.tk (Tk.same s4)
        have ha4 := ha3.same s4
        have hd4 := hd3.same s4
        clear ha3 hd3 exs3 hxs3
        walk_at "go"
        refine ⟨d, n, c, rfl, hd4, hn, fun lt us H5 nlt s5 cu eu ul htl => ?_⟩
        obtain rfl : us = ts := cu.ext canon fun j => (eu j).trans (ec j).symm
        walk_at "go"
        intro t1 nt1
        walk_at "go"
        intro l1 nl1
        have s6 : Same H5 (upd (upd H5 t1 (.tup [.str nm, .ref lt])) l1 (.lst [.ref t1])) := Same.new (Same.new0 nt1) nl1
        have et1 : (upd (upd H5 t1 (.tup [.str nm, .ref lt])) l1 (.lst [.ref t1])) t1 = some (.tup [.str nm, .ref lt]) := h_keep upd_same nl1
        have el1 : (upd (upd H5 t1 (.tup [.str nm, .ref lt])) l1 (.lst [.ref t1])) l1 = some (.lst [.ref t1]) := upd_same
        have htl6 := htl.same s6
        generalize upd (upd H5 t1 (.tup [.str nm, .ref lt])) l1 (.lst [.ref t1]) = H6 at *
        have s46 := s5.trans s6
        clear htl nt1 nl1 s5 s6
        walk_at "go"
        refine r_cut (fun σ H' => ∃ (l2 : Addr) (y5 : Option V), σ = [some (.ref a), some (.ref d), some (.str nm), some (.ref q), some (.ref l2), y5] ∧ Same H4 H' ∧ PlaceAt H' l2 (if us = [] then [] else [(nm, us)])) ?_ ?_
        · walk_at "go"
          intro e0 ne0
          refine r_eqT (htl6.same (Same.new0 ne0)) (TermsAt.none upd_same) ?_
          have s6e := s46.trans (Same.new0 (o := .lst []) ne0)
          have el1' := h_keep el1 ne0 (o := .lst [])
          have et1' := h_keep et1 ne0 (o := .lst [])
          have htl' := htl6.same (Same.new0 (o := .lst []) ne0)
          generalize upd H6 e0 (.lst []) = H7 at *
          clear el1 et1 htl6 ne0
          walk_at "go"
          refine r_iteD (fun z => ?_) (fun z => ?_)
          · walk_at "go"
            intro l2 nl2
            have s7 := s6e.trans (Same.new0 (o := .lst []) nl2)
            have e2 : upd H7 l2 (.lst []) l2 = some (.lst []) := upd_same
            generalize upd H7 l2 (.lst []) = H8 at *
            have exs8 := s7 _ _ exs4
            have hxs8 := hxs4.tk (Tk.same s7)
            subst z
            obtain ⟨c0, hxs0, hc0⟩ : ∃ c0, xs = [.ref c0] ∧ H8 c0 = some (.tup [.str "turn", .int 0]) := by
              have h : PrAt H8 (.turn 0 .nil) xs := hxs8
              obtain ⟨c0, r', e, h1, h2⟩ := h
              have h2 : r' = [] := h2
              subst h2
              exact ⟨c0, e, h1⟩
            subst hxs0
            walk_at "go"
            refine u_lcT (.of exs8) (fun D i acc H' => acc = List.replicate i (V.bl false) ∧ Same H8 H') ?_ ?_ ?_ ?_
            · exact fun D hD => ⟨rfl, Same.new0 hD⟩
            · exact fun D i acc H' _ _ ⟨_, s⟩ => .of (s _ _ exs8)
            · rintro D i x acc H' hD hx hacc ⟨rfl, sm⟩
              obtain ⟨rfl, rfl⟩ : i = 0 ∧ x = V.ref c0 := by
                cases i with
                | zero => cases hx; exact ⟨rfl, rfl⟩
                | succ i => cases hx
              have e' := sm _ _ hc0
              walk_at "go"
              refine ⟨rfl, ?_⟩
              walk_at "go"
              exact u_push hacc (by simp) ⟨rfl, Same.put sm hD⟩
            · rintro D acc H9 hD hacc ⟨rfl, s9⟩
              have hacc2 : H9 D = some (.lst ([false].map V.bl)) := hacc
              walk_at "go"
              refine r_any (.of hacc2) ?_
              walk_at "go"
              exact ⟨l2, _, rfl, s7.trans s9, ⟨[], s9 _ _ e2, rfl⟩⟩
          · walk_at "go"
            refine ⟨l1, _, rfl, s6e, ?_⟩
            rw [if_neg z]
            exact ⟨[.ref t1], el1', t1, lt, (nm, us), [], rfl, rfl, et1', trivial, htl', rfl⟩
        · rintro σ H7 ⟨l2, y5, rfl, s7, hp7⟩
          have exs7 := s7 _ _ exs4
          have hxs7 := hxs4.tk (Tk.same s7)
          have due : IsPlace (if us = [] then [] else [(nm, us)]) (Prog.wcf 0 (drawP nm us)) := by
            have hw := fun n k => drawP_wcf nm1 (B := 100000) (by omega) (by decide) nar n k
            by_cases z : us = []
            · rw [if_pos z]
              refine ⟨by simp, by simp, by simp, fun n _ k => ?_⟩
              rw [hw, z]
              simp [cof]
            · rw [if_neg z]
              refine ⟨fun e he => ?_, fun e he => ?_, by simp, fun n hn' k => ?_⟩
              · rw [List.mem_singleton.mp he]
                exact ⟨canon, z, fun k => by rw [hw, if_pos rfl]⟩
              · rw [List.mem_singleton.mp he]
                exact nm1
              · rw [hw, if_neg]
                rintro rfl
                exact hn' (by simp)
          walk_at "go"
          refine ⟨q, xs, _, rfl, exs7, hxs7, wf0, by omega, fun r lp pl H8 s8 hr8 hpl8 ip => ?_⟩
          obtain rfl := ip.ext due
          walk_at "go"
          refine r_nePlS hpl8 (hp7.sameK s8) due.names ?_
          walk_at "go"
          refine ⟨a, us, nm, rfl, ha4.same (s7.trans s8), nm1, lz, fun q2 H9 s9 hq2 => ?_⟩
          have s79 := (s7.trans s8).trans s9
          walk_at "go"
          refine ⟨_, _, rfl, (same_pr4 hq2 ⟨xs, (s8.trans s9) _ _ exs7, hxs7.tk (Tk.same (s8.trans s9))⟩ wf0 (by omega)).leD (by decide), fun Ha sa => ?_⟩
          walk_at "go"
          have sE := (s79.trans sa)
          exact k q Ha ((s13.trans s4).trans sE) ⟨xs, sE _ _ exs4, hxs4.tk (Tk.same sE)⟩
end

set_option Elab.async false
set_option linter.all false
set_option maxRecDepth 100000
set_option maxHeartbeats 8000000
set_option pp.deepTerms false
set_option pp.deepTerms.threshold 12
set_option pp.maxSteps 1200

open PySem PySem.Spec PyProof.Rows L2 RT
/-- a Poly and the dict that it has, fit for drawing -/
def Oth (C : Addr) (H : Hp) (v : V) (u : Unit) : Prop := ∃ t a d ts n c, v = .ref t ∧ H t = some (.tup [.ref a, .ref d]) ∧ PolyAt C H a ts ∧ JarAt H d n c ∧ (∀ k, cof ts k = c k) ∧ n ≤ 90000 ∧ absT ts + ts.length ≤ 3000 ∧ Nar 100000 ts
def spOthers (C : Addr) : Sp := fun vs H Q _ => ∃ b a d ts n c, vs = [.ref b, .ref a, .ref d] ∧ Bag H b ∧ PolyAt C H a ts ∧ JarAt H d n c ∧ (∀ k, cof ts k = c k) ∧ n ≤ 20 ∧ (∀ k, (c k).natAbs ≤ 120) ∧ (∀ k, c k ≠ 0 → -60 ≤ k ∧ k ≤ 60) ∧ ∀ l vs H', H l = none → But b H H' → Bag H' b → H' l = some (.lst vs) → vs.length = 3 → (∀ v ∈ vs, Oth C H' v ()) → Q (.ref l) H'
theorem Oth.bag {C : Addr} {H H' : Hp} {b : Addr} {v : V} (h : Oth C H v ()) (g : Bag H b) (s : But b H H') : Oth C H' v () := by
  obtain ⟨t, a, d, ts, n, c, e, ht, ha, hd, r⟩ := h
  refine ⟨t, a, d, ts, n, c, e, Tk.but s g _ _ ht, ha.stay (Stay.bag s g), ?_, r⟩
  obtain ⟨kvs, e, r⟩ := hd
  exact ⟨kvs, s _ _ (by rintro rfl; obtain ⟨_, _, _, e2, _⟩ := g; rw [e] at e2; cases e2) e, r⟩
theorem free_but {b x : Addr} {H H' : Hp} (s : But b H H') (n : H' x = none) (ne : x ≠ b) : H x = none := by
  cases e : H x with
  | none => rfl
  | some o => have := s _ _ ne e; rw [n] at this; cases this
theorem free_new {H : Hp} {x y : Addr} {o : HO} (n : upd H y o x = none) : H x = none := by
  by_cases e : x = y
  · subst e; rw [upd_same] at n; cases n
  · rw [upd_ne e] at n; exact n
theorem Oth.lst {C : Addr} {H : Hp} {l : Addr} {xs : List V} {o : HO} {v : V} (h : Oth C H v ()) (e : H l = some (.lst xs)) : Oth C (upd H l o) v () := by
  obtain ⟨t, a, d, ts, n, c, ev, ht, ha, ⟨kvs, ed, hd⟩, r⟩ := h
  refine ⟨t, a, d, ts, n, c, ev, (upd_ne ?_).trans ht, ha.stay ((Stay.refl H).lst e), ⟨kvs, (upd_ne ?_).trans ed, hd⟩, r⟩
  · rintro rfl; rw [e] at ht; cases ht
  · rintro rfl; rw [e] at ed; cases ed
theorem Oth.same {C : Addr} {H H' : Hp} {v : V} (h : Oth C H v ()) (s : Same H H') : Oth C H' v () := by
  obtain ⟨t, a, d, ts, n, c, e, ht, ha, hd, r⟩ := h
  exact ⟨t, a, d, ts, n, c, e, s _ _ ht, ha.same s, hd.same s, r⟩
section
variable {P : Program} {w : World} {K : PySem.W.Frag} {mg : Str → Option Value} {base : Heap} {C : Addr}

local macro_rules | `(tactic| walk_at "s") => `(tactic| (first
  | (with_reducible refine r_dnew ?_)
  | (with_reducible refine r_dget2 ?_)
  | (with_reducible refine r_dget ?_)
  | (with_reducible refine r_dput ?_)
  | (with_reducible refine r_dsetd ?_)
  | ((with_reducible refine JarAt.isD (n := ?nn) (c := ?cc) ?hh ?_); (case hh => assumption))
  ))

local macro_rules | `(tactic| walk_at "s") => `(tactic| (first
  | (with_reducible refine r_prop ?_)
  | (with_reducible refine r_meth ?_)
  | (with_reducible refine r_make ?_)
  | (with_reducible refine r_fld ?_)
  | (with_reducible refine r_sfld ?_)
  | (with_reducible refine r_iOwn ?_)
  | ((with_reducible refine u_rowsAt (mg := ?mm) (C := ?CC) (dx := ?dd) (fv := ?vv) ?tt ?hh ?_); (case tt => assumption); (case hh => walk_at "hp"))
  | ((with_reducible refine r_isPoly (mg := ?mm) (dx := ?dd) (fs := ?ff) ?tt ?hh ?_); (case tt => assumption); (case hh => walk_at "hp"))
  | ((with_reducible refine r_isPolyI (mg := ?mm) ?tt ?_); (case tt => assumption))
  | ((with_reducible refine r_polyInt (mg := ?mm) (C := ?CC) (dx := ?dd) (fs := ?ff) ?tt ?hh ?_); (case tt => assumption); (case hh => walk_at "hp"))
  ))

theorem ok_l_others {f : Addr} {fd : FuncData} (F : Fun K "_law_others" "_law_others" s_l_others f fd) (G_Poly : PolyT K mg C) (GI_Poly_lshift : IntOp K C "lshift") (bRange : mg "range" = none) (h_l_pick : Has P w K mg base "_law_pick" 1 ["_law_bag", "_law_many"] spPick) (h_l_moved : Has P w K mg base "_law_moved" 2 ["_law_jar", "_law_shift"] spMoved) (h_l_jar_of : Has P w K mg base "_law_jar_of" 1 ["_law_rows"] spJarOf) (h_l_made : Has P w K mg base "_law_made" 7 ["_law_bag", "_law_jar"] (spMade C)) (h_l_times : Has P w K mg base "_law_times" 1 ["_law_one", "_law_two"] spTimes) (h_ring : Has P w K mg base "ring" 8 ["order"] (spRing C)) (h_l_ring_jar : Has P w K mg base "_law_ring_jar" 4 ["_law_cycle"] spRingJar)
   (hm_Poly___lshift__ : HasM P w K mg base C "__lshift__" 5 ["self", "number"] (spShift C)) (hm_Poly___mul__ : HasM P w K mg base C "__mul__" 6 ["self", "other"] (spMul C mulF)) : FnOk P w K mg base CX0 10 f fd ["_law_bag", "_law_poly", "_law_jar"] (spOthers C) := by
  refine F.ok sc_l_others (fun vs H Q E h => ?_) (fun cdv A outer s H vs Q E hr h => ?_)
  · obtain ⟨b, a, d, ts, n, c, rfl, _⟩ := h
    rfl
  · obtain ⟨b, a, d, ts, n, c, rfl, hb, ha, hd, ec, hn, c1, c2, k⟩ := h
    have canon : Canon ts := by obtain ⟨_, _, _, _, _, _, z⟩ := ha; exact z
    have ltn : ts.length ≤ n := Canon.jar hd canon ec
    refine ⟨_, (pss_cons (ps_set (i := 3) sc_l_others.nd rfl (.inl rfl) (pe_op op_sub (pe_callH h_l_pick (hr.mono (by first | decide | omega)) (pa_cons (pv 0) (pa_cons pe_int pa_nil))) pe_int))
    (pss_cons (ps_set (i := 4) sc_l_others.nd rfl (.inl rfl) (pe_lst (pa_cons (pe_tup (pa_cons (pe_op (op_ownI (op := .LShift) hm_Poly___lshift__ G_Poly.self GI_Poly_lshift (hr.mono (by first | decide | omega))) (pv 1) (pv 3)) (pa_cons (pe_callH h_l_moved (hr.mono (by first | decide | omega)) (pa_cons (pv 2) (pa_cons (pv 3) pa_nil))) pa_nil))) pa_nil)))
    (pss_cons (ps_set (i := 5) sc_l_others.nd rfl (.inl rfl) (pe_callH h_l_jar_of (hr.mono (by first | decide | omega)) (pa_cons (pe_lc (own := [("_law_k", 8)]) rfl sc_l_others.nd (pi_range1 (by rfl) bRange (pa_cons pe_int pa_nil)) (blkOk_by (N := ["_law_bag", "_law_poly", "_law_jar", "_law_shift", "_law_some", "_law_first", "_law_second", "_law_cycle", "_law_k"]) (sc := defScope s_l_others) (by decide +kernel)) (fun _ _ _ _ _ => (pg_name (i := 8) sc_l_others.nd rfl (.inl rfl))) (fun _ _ _ _ _ => pts_nil) (fun _ _ _ _ _ => (pe_tup (pa_cons (pe_op op_sub (pe_callH h_l_pick (hr.mono (by first | decide | omega)) (pa_cons (pv 0) (pa_cons pe_int pa_nil))) pe_int) (pa_cons (pe_op op_sub (pe_callH h_l_pick (hr.mono (by first | decide | omega)) (pa_cons (pv 0) (pa_cons pe_int pa_nil))) pe_int) pa_nil))))) pa_nil)))
    (pss_cons (ps_set (i := 6) sc_l_others.nd rfl (.inl rfl) (pe_callH h_l_jar_of (hr.mono (by first | decide | omega)) (pa_cons (pe_lc (own := [("_law_k", 8)]) rfl sc_l_others.nd (pi_range1 (by rfl) bRange (pa_cons pe_int pa_nil)) (blkOk_by (N := ["_law_bag", "_law_poly", "_law_jar", "_law_shift", "_law_some", "_law_first", "_law_second", "_law_cycle", "_law_k"]) (sc := defScope s_l_others) (by decide +kernel)) (fun _ _ _ _ _ => (pg_name (i := 8) sc_l_others.nd rfl (.inl rfl))) (fun _ _ _ _ _ => pts_nil) (fun _ _ _ _ _ => (pe_tup (pa_cons (pe_op op_sub (pe_callH h_l_pick (hr.mono (by first | decide | omega)) (pa_cons (pv 0) (pa_cons pe_int pa_nil))) pe_int) (pa_cons (pe_op op_sub (pe_callH h_l_pick (hr.mono (by first | decide | omega)) (pa_cons (pv 0) (pa_cons pe_int pa_nil))) pe_int) pa_nil))))) pa_nil)))
    (pss_cons (ps_expr (pe_bm PySem.F.plainAttrs_list PySem.F.slot_list_append PySem.F.type_list_append mt_append (pv 4) (pa_cons (pe_tup (pa_cons (pe_op (op_own2 (op := .Mult) hm_Poly___mul__ G_Poly.self (hr.mono (by first | decide | omega))) (pe_callH h_l_made (hr.mono (by first | decide | omega)) (pa_cons (pv 0) (pa_cons (pv 5) pa_nil))) (pe_callH h_l_made (hr.mono (by first | decide | omega)) (pa_cons (pv 0) (pa_cons (pv 6) pa_nil)))) (pa_cons (pe_callH h_l_times (hr.mono (by first | decide | omega)) (pa_cons (pv 5) (pa_cons (pv 6) pa_nil))) pa_nil))) pa_nil)))
    (pss_cons (ps_set (i := 7) sc_l_others.nd rfl (.inl rfl) (pe_op op_add pe_int (pe_callH h_l_pick (hr.mono (by first | decide | omega)) (pa_cons (pv 0) (pa_cons pe_int pa_nil)))))
    (pss_cons (ps_expr (pe_bm PySem.F.plainAttrs_list PySem.F.slot_list_append PySem.F.type_list_append mt_append (pv 4) (pa_cons (pe_tup (pa_cons (pe_callH h_ring (hr.mono (by first | decide | omega)) (pa_cons (pv 7) pa_nil)) (pa_cons (pe_callH h_l_ring_jar (hr.mono (by first | decide | omega)) (pa_cons (pv 7) pa_nil)) pa_nil))) pa_nil)))
    (pss_one (ps_ret (pv 4)))))))))), ?_⟩
    walk_at "go"
    refine u_pick hb (by decide) (by decide) fun sh0 H1 sh00 sh01 bu1 b1 => ?_
    have st1 := Stay.bag bu1 hb
    have ha1 := ha.stay st1
    have hd1 : JarAt H1 d n c := by obtain ⟨kvs, e, r⟩ := hd; exact ⟨kvs, bu1 _ _ (by rintro rfl; obtain ⟨_, _, _, e2, _⟩ := hb; rw [e] at e2; cases e2) e, r⟩
    obtain ⟨sh, esh⟩ : ∃ sh : Int, sh0 - 300 = sh := ⟨_, rfl⟩
    have shb : -300 ≤ sh ∧ sh ≤ 300 := by omega
    walk_at "go"
    rw [esh]
    refine u_shl ha1 (by omega) fun p1 us1 H2 s2 hp1 e1 l1 => ?_
    walk_at "go"
    refine ⟨d, n, c, sh, rfl, hd1.same s2, by omega, fun d1 H3 nd1 s3 hd1' => ?_⟩
    walk_at "go"
    intro t1 nt1
    walk_at "go"
    intro l1' nl1
    have s4 : Same H3 (upd (upd H3 t1 (.tup [.ref p1, .ref d1])) l1' (.lst [.ref t1])) := Same.new (Same.new0 nt1) nl1
    have et1 : (upd (upd H3 t1 (.tup [.ref p1, .ref d1])) l1' (.lst [.ref t1])) t1 = some (.tup [.ref p1, .ref d1]) := h_keep upd_same nl1
    have el1 : (upd (upd H3 t1 (.tup [.ref p1, .ref d1])) l1' (.lst [.ref t1])) l1' = some (.lst [.ref t1]) := upd_same
    generalize upd (upd H3 t1 (.tup [.ref p1, .ref d1])) l1' (.lst [.ref t1]) = H4 at *
    have s24 := (s2.trans s3).trans s4
    have b4 := b1.same s24
    have bu4 := bu1.trans (Same.but s24 b)
    have nl1H : H l1' = none := free_but bu1 (free_same (s2.trans s3) (free_new nl1)) ((b1.same (s2.trans s3)).keep nt1 (o := .tup [.ref p1, .ref d1]) |>.ne nl1)
    have l1b : l1' ≠ b := (b1.same (s2.trans s3)).keep nt1 (o := .tup [.ref p1, .ref d1]) |>.ne nl1
    have cus1 : Canon us1 := by obtain ⟨_, _, _, _, _, _, z⟩ := hp1; exact z
    have O1 : Oth C H4 (.ref t1) () := by
      refine ⟨t1, p1, d1, us1, n, _, rfl, et1, hp1.same (s3.trans s4), hd1'.same s4, fun k => by rw [e1, ec], by omega, ?_, ?_⟩
      · have := absT_canon (B := 120) (N := 20) cus1 (fun k => by rw [e1, ec]; exact c1 _) (by omega)
        omega
      · refine nar_canon cus1 fun k hk => ?_
        rw [e1, ec] at hk
        have := c2 _ hk
        omega
    clear hp1 hd1' et1 nt1 nl1 nd1 s2 s3 s4 s24 ha1 hd1 st1 b1 bu1 e1 cus1
    walk_at "go"
    refine u_lc1 ⟨by decide, by decide⟩ (fun D j acc H' => ∃ us : Terms, TermsL H' acc us ∧ us.length = j ∧ (∀ p ∈ us, (-60 ≤ p.1 ∧ p.1 ≤ 60) ∧ p.2.natAbs ≤ 3) ∧ But b H4 H' ∧ Bag H' b) ?_ ?_ ?_
    · exact fun D hD => ⟨[], rfl, rfl, by simp, (But.refl _ _).new hD, b4.keep hD⟩
    · rintro D j acc H' hD hj hacc ⟨us, htl, ul, hb1, bu', b'⟩
      have Db := b4.ne hD
      have lacc := htl.length
      walk_at "go"
      refine ⟨rfl, ?_⟩
      walk_at "go"
      refine u_pick b' (by decide) (by decide) fun x1 Hx x10 x11 bux bx => ?_
      walk_at "go"
      refine u_pick bx (by decide) (by decide) fun x2 Hy x20 x21 buy by_ => ?_
      walk_at "go"
      intro t nt
      have tkx := (Tk.but bux b').trans (Tk.but buy bx)
      have bxy := bux.trans buy
      have hacc3 := h_keep (bxy _ _ Db hacc) nt (o := .tup [.int (x1 - 60), .int (x2 - 3)])
      have htl3 := (htl.tk tkx).tk ((Tk.refl Hy).new (o := .tup [.int (x1 - 60), .int (x2 - 3)]) nt)
      have et : upd Hy t (.tup [.int (x1 - 60), .int (x2 - 3)]) t = some (.tup [.int (x1 - 60), .int (x2 - 3)]) := upd_same
      have bu3 := (bu'.trans bxy).new nt (o := .tup [.int (x1 - 60), .int (x2 - 3)])
      have b3' := by_.keep nt (o := .tup [.int (x1 - 60), .int (x2 - 3)])
      generalize upd Hy t (.tup [.int (x1 - 60), .int (x2 - 3)]) = Hz at *
      have tkD : Tk Hz (upd Hz D (.lst (acc ++ [.ref t]))) := (Tk.refl Hz).lst hacc3
      refine u_push hacc3 (by omega) ⟨us ++ [(x1 - 60, x2 - 3)], ?_, by rw [List.length_append, List.length_singleton]; omega, ?_, ?_, ?_⟩
      · exact (htl3.tk tkD).app (TermsL.one (tkD _ _ et))
      · intro p hp
        rcases List.mem_append.mp hp with hp | hp
        · exact hb1 p hp
        · rw [List.mem_singleton.mp hp]
          exact ⟨⟨by show -60 ≤ x1 - 60; omega, by show x1 - 60 ≤ 60; omega⟩, by show (x2 - 3).natAbs ≤ 3; omega⟩
      · exact but_fresh bu3 hD (But.self (But.refl D Hz))
      · exact bag_but b3' (Ne.symm Db) (But.self (But.refl D Hz))
    · rintro D1 acc1 H5 hD1 hacc1 ⟨us1, htl1, ul1, ub1, bu5, b5⟩
      have bu45 := bu4.trans bu5
      have el5 := bu5 _ _ l1b el1
      have O5 := O1.bag b4 bu5
      walk_at "go"
      refine ⟨D1, us1, rfl, ⟨acc1, hacc1, htl1⟩, by omega, fun dj1 H6 ndj1 s6 hj1 => ?_⟩
      have b6 := b5.same s6
      have bu46 := bu45.trans (Same.but s6 b)
      have el6 := s6 _ _ el5
      have O6 := O5.same s6
      clear O5 O1 bu45 bu5 b5 el5 el1 hacc1 htl1 bu4 b4
      walk_at "go"
      refine u_lc1 ⟨by decide, by decide⟩ (fun D j acc H' => ∃ us : Terms, TermsL H' acc us ∧ us.length = j ∧ (∀ p ∈ us, (-60 ≤ p.1 ∧ p.1 ≤ 60) ∧ p.2.natAbs ≤ 4) ∧ But b H6 H' ∧ Bag H' b) ?_ ?_ ?_
      · exact fun D hD => ⟨[], rfl, rfl, by simp, (But.refl _ _).new hD, b6.keep hD⟩
      · rintro D j acc H' hD hj hacc ⟨us, htl, ul, hb1, bu', b'⟩
        have Db := b6.ne hD
        have lacc := htl.length
        walk_at "go"
        refine ⟨rfl, ?_⟩
        walk_at "go"
        refine u_pick b' (by decide) (by decide) fun x1 Hx x10 x11 bux bx => ?_
        walk_at "go"
        refine u_pick bx (by decide) (by decide) fun x2 Hy x20 x21 buy by_ => ?_
        walk_at "go"
        intro t nt
        have tkx := (Tk.but bux b').trans (Tk.but buy bx)
        have bxy := bux.trans buy
        have hacc3 := h_keep (bxy _ _ Db hacc) nt (o := .tup [.int (x1 - 60), .int (x2 - 4)])
        have htl3 := (htl.tk tkx).tk ((Tk.refl Hy).new (o := .tup [.int (x1 - 60), .int (x2 - 4)]) nt)
        have et : upd Hy t (.tup [.int (x1 - 60), .int (x2 - 4)]) t = some (.tup [.int (x1 - 60), .int (x2 - 4)]) := upd_same
        have bu3 := (bu'.trans bxy).new nt (o := .tup [.int (x1 - 60), .int (x2 - 4)])
        have b3' := by_.keep nt (o := .tup [.int (x1 - 60), .int (x2 - 4)])
        generalize upd Hy t (.tup [.int (x1 - 60), .int (x2 - 4)]) = Hz at *
        have tkD : Tk Hz (upd Hz D (.lst (acc ++ [.ref t]))) := (Tk.refl Hz).lst hacc3
        refine u_push hacc3 (by omega) ⟨us ++ [(x1 - 60, x2 - 4)], ?_, by rw [List.length_append, List.length_singleton]; omega, ?_, ?_, ?_⟩
        · exact (htl3.tk tkD).app (TermsL.one (tkD _ _ et))
        · intro p hp
          rcases List.mem_append.mp hp with hp | hp
          · exact hb1 p hp
          · rw [List.mem_singleton.mp hp]
            exact ⟨⟨by show -60 ≤ x1 - 60; omega, by show x1 - 60 ≤ 60; omega⟩, by show (x2 - 4).natAbs ≤ 4; omega⟩
        · exact but_fresh bu3 hD (But.self (But.refl D Hz))
        · exact bag_but b3' (Ne.symm Db) (But.self (But.refl D Hz))
      · rintro D2 acc2 H7 hD2 hacc2 ⟨us2, htl2, ul2, ub2, bu7, b7⟩
        have bu47 := bu46.trans bu7
        have el7 := bu7 _ _ l1b el6
        have O7 := O6.bag b6 bu7
        have hj17 : JarAt H7 dj1 us1.length (cof us1) := hj1.bagK b6 bu7
        walk_at "go"
        refine ⟨D2, us2, rfl, ⟨acc2, hacc2, htl2⟩, by omega, fun dj2 H8 ndj2 s8 hj2 => ?_⟩
        have b8 := b7.same s8
        have bu48 := bu47.trans (Same.but s8 b)
        have el8 := s8 _ _ el7
        have O8 := O7.same s8
        have hj18 := hj17.same s8
        clear O7 O6 bu47 bu7 b7 el7 hacc2 htl2 bu46 b6 hj17 hj1 el6
        have a1 : absT us1 ≤ 9 := by have := absT_le (ts := us1) (B := 3) fun p hp => (ub1 p hp).2; rw [ul1] at this; exact this
        have a2 : absT us2 ≤ 12 := by have := absT_le (ts := us2) (B := 4) fun p hp => (ub2 p hp).2; rw [ul2] at this; exact this
        have ap : absT (prodT us1 us2) ≤ 108 := by rw [prod_absT]; exact Nat.mul_le_mul a1 a2
        have kp := prod_keys (A := 60) (B := 60) (fun p hp => (ub1 p hp).1) (fun p hp => (ub2 p hp).1)
        have sm1 : Sm (cof us1) := fun k => Nat.lt_of_le_of_lt (Nat.le_trans (cof_absT us1 k) (Nat.le_trans a1 (by decide))) sm_lit
        have sm2 : Sm (cof us2) := fun k => Nat.lt_of_le_of_lt (Nat.le_trans (cof_absT us2 k) a2) sm_lit
        walk_at "go"
        refine ⟨b, dj1, _, _, rfl, b8, hj18, by omega, fun m1 ts1 H9 bu9 b9 hm1 em1 lm1 => ?_⟩
        have hj19 := hj18.bagK b8 bu9
        have hj29 := hj2.bagK b8 bu9
        have el9 := bu9 _ _ l1b el8
        have O9 := O8.bag b8 bu9
        walk_at "go"
        refine ⟨b, dj2, _, _, rfl, b9, hj29, by omega, fun m2 ts2 Ha bua ba hm2 em2 lm2 => ?_⟩
        have hj1a := hj19.bagK b9 bua
        have hj2a := hj29.bagK b9 bua
        have ela := bua _ _ l1b el9
        have Oa := O9.bag b9 bua
        have hm1a := hm1.stay (Stay.bag bua b9)
        have bu4a := (bu48.trans bu9).trans bua
        clear O8 O9 hj18 hj2 hj19 hj29 el8 el9 hm1 bu9 bua bu48 b8 b9
        have sm1' : Sm (cof ts1) := fun k => by rw [em1]; exact sm1 k
        have sm2' : Sm (cof ts2) := fun k => by rw [em2]; exact sm2 k
        have lmul : ts1.length * ts2.length ≤ 25 := Nat.mul_le_mul (by omega : ts1.length ≤ 5) (by omega : ts2.length ≤ 5)
        refine u_mul2 hm1a hm2 (by omega) sm1' sm2' fun mp wsP Hb sb hmp emp lmp => ?_
        walk_at "go"
        refine ⟨dj1, dj2, _, _, _, _, rfl, hj1a.same sb, hj2a.same sb, by rw [ul1, ul2]; decide, sm1, sm2, fun dp Hc ndp sc hdp => ?_⟩
        walk_at "go"
        intro t2 nt2
        have sd := Same.new0 (o := .tup [.ref mp, .ref dp]) nt2
        have et2 : upd Hc t2 (.tup [.ref mp, .ref dp]) t2 = some (.tup [.ref mp, .ref dp]) := upd_same
        have sbd := (sb.trans sc).trans sd
        have bd := ba.same sbd
        have bu4d := bu4a.trans (Same.but sbd b)
        have eld := sbd _ _ ela
        have Od := Oa.same sbd
        have eMul : ∀ k, cof wsP k = cof (prodT us1 us2) k := fun k => by rw [emp, mulF_ext em1 em2, mulF_of (fun _ => rfl) (fun _ => rfl), cof_prod]
        have cwsP : Canon wsP := by obtain ⟨_, _, _, _, _, _, z⟩ := hmp; exact z
        have O2 : Oth C (upd Hc t2 (.tup [.ref mp, .ref dp])) (.ref t2) () := by
          refine ⟨t2, mp, dp, wsP, _, _, rfl, et2, hmp.same (sc.trans sd), hdp.same sd, fun k => ?_, by rw [ul1, ul2]; decide, ?_, ?_⟩
          · rw [emp]; exact mulF_ext em1 em2 k
          · have := absT_canon (B := 108) (N := 25) cwsP (fun k => by rw [eMul]; exact Nat.le_trans (cof_absT _ k) ap) (by omega)
            omega
          · refine nar_canon cwsP fun k hk => ?_
            rw [eMul] at hk
            have := key_of kp hk
            omega
        generalize upd Hc t2 (.tup [.ref mp, .ref dp]) = Hd at *
        clear hmp hdp et2 nt2 ndp sb sc sd sbd Oa ela ba bu4a hm1a hm2 hj1a hj2a
        walk_at "go"
        have bud : But l1' Hd (upd Hd l1' (.lst ([.ref t1] ++ [.ref t2]))) := But.self (But.refl l1' Hd)
        have be := bag_but bd (Ne.symm l1b) bud
        have bue := but_fresh bu4d nl1H bud
        have O1e := Od.lst (o := .lst ([.ref t1] ++ [.ref t2])) eld
        have O2e := O2.lst (o := .lst ([.ref t1] ++ [.ref t2])) eld
        have ele : upd Hd l1' (.lst ([.ref t1] ++ [.ref t2])) l1' = some (.lst [.ref t1, .ref t2]) := upd_same
        generalize upd Hd l1' (.lst ([.ref t1] ++ [.ref t2])) = He at *
        clear Od O2 eld bd bu4d bud
        refine u_pick be (by decide) (by decide) fun r9 Hf r90 r91 buf bf => ?_
        obtain ⟨N, eN⟩ : ∃ N : Nat, 1 + r9 = N := ⟨(1 + r9).toNat, by omega⟩
        have N1 : 1 ≤ N := by omega
        have N2 : N ≤ 120 := by omega
        have bu4f := bue.trans buf
        have elf := buf _ _ l1b ele
        have O1f := O1e.bag be buf
        have O2f := O2e.bag be buf
        clear O1e O2e ele bue be buf
        walk_at "go"
        rw [eN]
        refine ⟨N, rfl, N1, by omega, fun pr Hg sg hpr => ?_⟩
        walk_at "go"
        refine ⟨N, rfl, N1, by omega, fun dr Hh ndr sh2 hdr => ?_⟩
        walk_at "go"
        intro t3 nt3
        have si := Same.new0 (o := .tup [.ref pr, .ref dr]) nt3
        have et3 : upd Hh t3 (.tup [.ref pr, .ref dr]) t3 = some (.tup [.ref pr, .ref dr]) := upd_same
        have sfi := (sg.trans sh2).trans si
        have bi := bf.same sfi
        have bu4i := bu4f.trans (Same.but sfi b)
        have eli := sfi _ _ elf
        have O1i := O1f.same sfi
        have O2i := O2f.same sfi
        have R := ringF N1 (by omega : N ≤ 210)
        have O3 : Oth C (upd Hh t3 (.tup [.ref pr, .ref dr])) (.ref t3) () := by
          obtain ⟨g1, g2⟩ := ring_draw N1 N2
          have ph := M11.phi_le N
          exact ⟨t3, pr, dr, ringT N, M11.phi N + 1, _, rfl, et3, hpr.same (sh2.trans si), hdr.same si, fun k => cof_ringT R k, by omega, g1, g2⟩
        generalize upd Hh t3 (.tup [.ref pr, .ref dr]) = Hi at *
        walk_at "go"
        have buI : But l1' Hi (upd Hi l1' (.lst ([.ref t1, .ref t2] ++ [.ref t3]))) := But.self (But.refl l1' Hi)
        refine k l1' [.ref t1, .ref t2, .ref t3] _ nl1H (but_fresh bu4i nl1H buI) (bag_but bi (Ne.symm l1b) buI) upd_same rfl fun v hv => ?_
        have h1 := O1i.lst (o := .lst ([.ref t1, .ref t2] ++ [.ref t3])) eli
        have h2 := O2i.lst (o := .lst ([.ref t1, .ref t2] ++ [.ref t3])) eli
        have h3 := O3.lst (o := .lst ([.ref t1, .ref t2] ++ [.ref t3])) eli
        simp only [List.mem_cons, List.not_mem_nil, or_false] at hv
        rcases hv with rfl | rfl | rfl
        · exact h1
        · exact h2
        · exact h3
end

set_option Elab.async false
set_option linter.all false
set_option maxRecDepth 100000
set_option maxHeartbeats 8000000
set_option pp.deepTerms false
set_option pp.deepTerms.threshold 12
set_option pp.maxSteps 1200

open PySem PySem.Spec PyProof.Rows L2 RT
theorem r_isNRg {H : Hp} {Q : VK} {a : Addr} (q : Q (.bl false) H) : rIsN (.ref a) .non H Q := ⟨rfl, by rw [decide_eq_false (by intro h; cases h)]; exact q⟩
section
variable {P : Program} {w : World} {K : PySem.W.Frag} {mg : Str → Option Value} {base : Heap} {C A_AngleError A_InvalidPoly A_InvalidName A_InvalidOrders A_NoProgram A_InvalidOrder A_InvalidNumber A_InvalidProgram : Addr}

local macro_rules | `(tactic| walk_at "s") => `(tactic| (first
  | (with_reducible refine r_dnew ?_)
  | (with_reducible refine r_dget2 ?_)
  | (with_reducible refine r_dget ?_)
  | (with_reducible refine r_dput ?_)
  | (with_reducible refine r_dsetd ?_)
  | ((with_reducible refine JarAt.isD (n := ?nn) (c := ?cc) ?hh ?_); (case hh => assumption))
  ))

local macro_rules | `(tactic| walk_at "s") => `(tactic| (first
  | (with_reducible refine r_prop ?_)
  | (with_reducible refine r_meth ?_)
  | (with_reducible refine r_make ?_)
  | (with_reducible refine r_fld ?_)
  | (with_reducible refine r_sfld ?_)
  | (with_reducible refine r_iOwn ?_)
  | ((with_reducible refine u_rowsAt (mg := ?mm) (C := ?CC) (dx := ?dd) (fv := ?vv) ?tt ?hh ?_); (case tt => assumption); (case hh => walk_at "hp"))
  | ((with_reducible refine r_isPoly (mg := ?mm) (dx := ?dd) (fs := ?ff) ?tt ?hh ?_); (case tt => assumption); (case hh => walk_at "hp"))
  | ((with_reducible refine r_isPolyI (mg := ?mm) ?tt ?_); (case tt => assumption))
  | ((with_reducible refine r_polyInt (mg := ?mm) (C := ?CC) (dx := ?dd) (fs := ?ff) ?tt ?hh ?_); (case tt => assumption); (case hh => walk_at "hp"))
  ))

theorem ok_law {f : Addr} {fd : FuncData} (F : Fun K "law" "law" s_law f fd) (G_Poly : PolyT K mg C) (GI_Poly_lshift : IntOp K C "lshift") (X_InvalidName : OwnX K mg "InvalidName" A_InvalidName) (uInvalidName_Tstr : PySem.W.subIn K (.ref A_InvalidName) (.type "str") = some false) (h_l_bag_of : Has P w K mg base "_law_bag_of" 1 ["_law_cell"] spBagOf) (h_l_pick : Has P w K mg base "_law_pick" 1 ["_law_bag", "_law_many"] spPick) (h_l_drawable : Has P w K mg base "_law_drawable" 2 ["_law_bag"] spDrawable)
   (h_l_made : Has P w K mg base "_law_made" 7 ["_law_bag", "_law_jar"] (spMade C)) (h_l_drawn : Has P w K mg base "_law_drawn" 29 ["_law_poly", "_law_jar", "_law_who"] (spDrawn C)) (h_l_others : Has P w K mg base "_law_others" 10 ["_law_bag", "_law_poly", "_law_jar"] (spOthers C)) (h_drawing : Has P w K mg base "drawing" 3 ["poly", "name"] (spDrawing C)) (h_l_same_piece : Has P w K mg base "_law_same_piece" 28 ["_law_found", "_law_due"] (spSame 28)) (h_l_odd : Has P w K mg base "_law_odd" 5 ["_law_bag"] (spOddN K C)) (h_l_asked : Has P w K mg base "_law_asked" 5 ["_law_poly", "_law_who"] (spAsked K C)) (h_l_is_poly : Has P w K mg base "_law_is_poly" 4 ["_law_found", "_law_jar"] (spIsPoly C)) (hm_Poly___lshift__ : HasM P w K mg base C "__lshift__" 5 ["self", "number"] (spShift C)) : FnOk P w K mg base CX0 32 f fd ["_law_script"] (spLaw K) := by
  have uNs : PySem.W.kitOne K (.ref A_InvalidName) (.type "str") = some false := kit_ownB uInvalidName_Tstr
  refine F.ok sc_law (fun vs H Q E h => ?_) (fun cdv A outer s H vs Q E hr h => ?_)
  · obtain ⟨a, ns, rfl, _⟩ := h
    rfl
  · obtain ⟨a, ns, rfl, hS, hlen, k⟩ := h
    refine ⟨_, (pss_cons (ps_set (i := 1) sc_law.nd rfl (.inl rfl) pe_str)
    (pss_cons (ps_set (i := 2) sc_law.nd rfl (.inl rfl) pe_int)
    (pss_cons (ps_for PassesOwn.never rfl (pi_list (pe_op op_cat (pe_lst (pa_cons (pv 2) pa_nil)) (pe_slice sl_list (pv 0) po_none (po_some pe_int)))) (pg_name (i := 3) sc_law.nd rfl (.inl rfl))
    (pss_cons (ps_set (i := 4) sc_law.nd rfl (.inl rfl) (pe_callH h_l_bag_of (hr.mono (by first | decide | omega)) (pa_cons (pv 3) pa_nil)))
    (pss_cons (ps_set (i := 5) sc_law.nd rfl (.inl rfl) (pe_callH h_l_drawable (hr.mono (by first | decide | omega)) (pa_cons (pv 4) pa_nil)))
    (pss_cons (ps_set (i := 6) sc_law.nd rfl (.inl rfl) (pe_callH h_l_made (hr.mono (by first | decide | omega)) (pa_cons (pv 4) (pa_cons (pv 5) pa_nil))))
    (pss_cons (ps_set (i := 7) sc_law.nd rfl (.inl rfl) (pe_ix ix_str (pv 1) (pe_callH h_l_pick (hr.mono (by first | decide | omega)) (pa_cons (pv 4) (pa_cons pe_int pa_nil))) (fun _ _ => rfl)))
    (pss_cons (ps_set (i := 8) sc_law.nd rfl (.inl rfl) (pe_callH h_l_drawn (hr.mono (by first | decide | omega)) (pa_cons (pv 6) (pa_cons (pv 5) (pa_cons (pv 7) pa_nil)))))
    (pss_cutM (ps_for PassesOwn.never rfl (pi_list (pe_callH h_l_others (hr.mono (by first | decide | omega)) (pa_cons (pv 4) (pa_cons (pv 6) (pa_cons (pv 5) pa_nil))))) (pg_tup (by rfl) (pgs_cons (pg_name (i := 9) sc_law.nd rfl (.inl rfl)) (pgs_cons (pg_name (i := 10) sc_law.nd rfl (.inl rfl)) pgs_nil)))
    (pss_one (ps_if (PW.pt (pw_or (pt_cmpR op_isNN (pv 8) pe_non (nomark _)) (pw_or1 (pt_cmpR op_isNN (pe_callH h_l_drawn (hr.mono (by first | decide | omega)) (pa_cons (pv 9) (pa_cons (pv 10) (pa_cons (pv 7) pa_nil)))) pe_non (nomark _)))))
    (pss_one (ps_ret pe_bl))
    pss_nil)))
    (pss_cutM (ps_for PassesOwn.never rfl (pi_list (pe_lst (pa_cons (pe_callH h_l_made (hr.mono (by first | decide | omega)) (pa_cons (pv 4) (pa_cons (pv 5) pa_nil))) (pa_cons (pe_op (op_ownI (op := .LShift) hm_Poly___lshift__ G_Poly.self GI_Poly_lshift (hr.mono (by first | decide | omega))) (pe_op (op_ownI (op := .LShift) hm_Poly___lshift__ G_Poly.self GI_Poly_lshift (hr.mono (by first | decide | omega))) (pv 6) pe_int) (pe_op op_sub pe_int pe_int)) (pa_cons (pe_callH h_l_made (hr.mono (by first | decide | omega)) (pa_cons (pv 4) (pa_cons (pv 5) pa_nil))) pa_nil))))) (pg_name (i := 11) sc_law.nd rfl (.inl rfl))
    (pss_one (ps_if (pt_not (pt_val (pe_callH h_l_same_piece (hr.mono (by first | decide | omega)) (pa_cons (pe_callH h_drawing (hr.mono (by first | decide | omega)) (pa_cons (pv 11) (pa_cons (pv 7) pa_nil))) (pa_cons (pv 8) pa_nil)))))
    (pss_one (ps_ret pe_bl))
    pss_nil)))
    (pss_cons (ps_set (i := 12) sc_law.nd rfl (.inl rfl) (pe_callH h_l_odd (hr.mono (by first | decide | omega)) (pa_cons (pv 4) pa_nil)))
    (pss_cutM (ps_set (i := 13) sc_law.nd rfl (.inl rfl) (pe_ix (ix_listK (K := K)) (pe_lst (pa_cons pe_non (pa_cons pe_str (pa_cons pe_str (pa_cons pe_str (pa_cons pe_str (pa_cons pe_int (pa_cons pe_bl (pa_cons (pe_lst (pa_cons pe_str pa_nil)) (pa_cons (pe_tup (pa_cons pe_str pa_nil)) (pa_cons pe_str (pa_cons pe_str (pa_cons (pe_exc1 PySem.F.excBase_ValueError X_InvalidName.xi X_InvalidName.g X_InvalidName.k rfl pe_str) pa_nil))))))))))))) (pe_callH h_l_pick (hr.mono (by first | decide | omega)) (pa_cons (pv 4) (pa_cons pe_int pa_nil))) (fun _ _ => rfl)))
    (pss_cutM (ps_if (PW.pt (pw_or (pt_cmpR (op_neDK (K := K) hr.units) (pe_callH h_l_asked (hr.mono (by first | decide | omega)) (pa_cons (pv 12) (pa_cons (pv 7) pa_nil))) (pe_op op_cat (pe_lst (pa_cons pe_bl pa_nil)) (pe_op op_rep (pe_lst (pa_cons pe_bl pa_nil)) pe_int)) (nomark _)) (pw_or1 (pt_cmpR (op_neDK (K := K) hr.units) (pe_callH h_l_asked (hr.mono (by first | decide | omega)) (pa_cons (pv 12) (pa_cons (pv 13) pa_nil))) (pe_op op_cat (pe_lst (pa_cons pe_bl pa_nil)) (pe_op op_rep (pe_lst (pa_cons pe_bl pa_nil)) pe_int)) (nomark _)))))
    (pss_one (ps_ret pe_bl))
    pss_nil)
    (pss_cutM (ps_if (PW.pt (pw_or (pt_cmpR (op_neDK (K := K) hr.units) (pe_callH h_l_asked (hr.mono (by first | decide | omega)) (pa_cons (pv 6) (pa_cons (pv 13) pa_nil))) (pe_op op_cat (pe_lst (pa_cons pe_bl (pa_cons pe_bl pa_nil))) (pe_op op_rep (pe_lst (pa_cons pe_bl pa_nil)) pe_int)) (nomark _)) (pw_or1 (pt_cmpR (op_neDK (K := K) hr.units) (pe_callH h_l_asked (hr.mono (by first | decide | omega)) (pa_cons pe_int (pa_cons (pv 7) pa_nil))) (pe_op op_cat (pe_lst (pa_cons pe_bl pa_nil)) (pe_op op_rep (pe_lst (pa_cons pe_bl pa_nil)) pe_int)) (nomark _)))))
    (pss_one (ps_ret pe_bl))
    pss_nil)
    (pss_one (ps_if (PW.pt (pw_or (pt_not (pt_val (pe_callH h_l_is_poly (hr.mono (by first | decide | omega)) (pa_cons (pv 6) (pa_cons (pv 5) pa_nil))))) (pw_or1 (pt_not (pt_val (pe_callH h_l_same_piece (hr.mono (by first | decide | omega)) (pa_cons (pe_callH h_drawing (hr.mono (by first | decide | omega)) (pa_cons (pv 6) (pa_cons (pv 7) pa_nil))) (pa_cons (pv 8) pa_nil))))))))
    (pss_one (ps_ret pe_bl))
    pss_nil))))))))))))))
    (pss_one (ps_ret pe_bl))))), ?_⟩
    walk_at "go"
    intro g ng
    walk_at "go"
    refine r_slL ((Same.new0 ng).seq hS) ?_
    intro c nc
    refine r_cat (xs := [.int _]) (zs := cutV (ns.map V.int) none (some 4)) (by walk_at "hp") upd_same ?_ ?_
    · have := cut_len (xs := ns.map V.int) none (some 4)
      rw [List.length_map] at this
      simp
      omega
    intro l nl
    have sl : ∀ H', Same (upd (upd (upd H g (HO.lst [V.int 856490107364426609409167514751593035989978533139855649561676170838034134730596335634260440683859])) c (.lst (cutV (ns.map V.int) none (some 4)))) l (.lst ([V.int 856490107364426609409167514751593035989978533139855649561676170838034134730596335634260440683859] ++ cutV (ns.map V.int) none (some 4)))) H' → H' l = some (.lst ([V.int 856490107364426609409167514751593035989978533139855649561676170838034134730596335634260440683859] ++ cutV (ns.map V.int) none (some 4))) := fun H' sm => sm _ _ upd_same
    generalize upd (upd (upd H g _) c _) l _ = H0 at *
    refine u_forL (SqL.of (sl H0 (Same.refl _))) (fun i σ H' => ∃ y0 y2 y3 y4 y5 y6 y7 y8 y9 ya yb yc yd : Option V, σ = [y0, some (.str "abcdefghijklmnopqrstuvwxyz"), y2, y3, y4, y5, y6, y7, y8, y9, ya, yb, yc, yd] ∧ Same H0 H') ⟨_, _, _, _, _, _, _, _, _, _, _, _, _, rfl, Same.refl _⟩ ?_ ?_ ?_
    · rintro i σ H' _ ⟨y0, y2, y3, y4, y5, y6, y7, y8, y9, ya, yb, yc, yd, rfl, sm⟩
      exact SqL.of (sl H' sm)
    · rintro i x σ H' hx ⟨y0, y2, y3, y4, y5, y6, y7, y8, y9, ya, yb, yc, yd, rfl, sm⟩
      obtain ⟨cell, rfl⟩ := cells_int hx
      walk_at "go"
      refine ⟨cell, rfl, fun b H1 nb s1 b1 => ?_⟩
      walk_at "go"
      refine ⟨b, rfl, b1, fun j c H2 nj bu2 b2 hj c1 c2 => ?_⟩
      walk_at "go"
      refine ⟨b, j, 13, c, rfl, b2, hj, by decide, fun p ts H3 bu3 b3 hp ep lp => ?_⟩
      have hj3 := hj.bagK b2 bu3
      have canon : Canon ts := by obtain ⟨_, _, _, _, _, _, z⟩ := hp; exact z
      have ltn : ts.length ≤ 13 := Canon.jar hj3 canon ep
      have abst := absT_canon (B := 120) (N := 13) canon (fun k => by rw [ep]; exact c1 k) ltn
      have nar : Nar 100000 ts := nar_canon canon fun k hk => by
        rw [ep] at hk
        have := c2 k hk
        omega
      have nz : ∀ q ∈ ts, q.2 ≠ 0 := fun p hp => canon.nz p hp
      have c24 : (200000 : Int) ≤ BC := by decide +kernel
      walk_at "go"
      refine u_pick b3 (by decide) (by decide) fun r1 H4 r10 r11 bu4 b4 => ?_
      obtain ⟨cc, hcc, c97, c122⟩ := letter_at r10 r11
      have hp4 := hp.stay (Stay.bag bu4 b3)
      have hj4 := hj3.bagK b3 bu4
      have buA := (bu2.trans bu3).trans bu4
      clear hp hj hj3 bu2 bu3 bu4 b1 b2 b3
      have nm1 : IsName ⟨#[cc]⟩ := ⟨cc, rfl, c97, c122⟩
      generalize enm : (⟨#[cc]⟩ : Str) = nm at *
      walk_at "go"
      refine r_ixS (by decide) hcc ?_
      rw [enm]
      walk_at "go"
      refine ⟨p, j, nm, ts, 13, c, rfl, hp4, hj4, ep, by decide, nm1, by omega, nar, fun q H5 s5 hq => ?_⟩
      have hp5 := hp4.same s5
      have hj5 := hj4.same s5
      have b5 := b4.same s5
      have buB := buA.trans (Same.but s5 b)
      have wf0 : Wf BC BC 0 (drawP nm ts) := drawP_wf nm1 (by omega) (by decide) nar
      have pl1 := drawP_len nm ts
      clear hp4 hj4 b4 buA s5
      walk_at "go"
      refine r_cut (fun σ H' => ∃ z9 za : Option V, σ = [y0, some (.str "abcdefghijklmnopqrstuvwxyz"), y2, some (.int cell), some (.ref b), some (.ref j), some (.ref p), some (.str nm), some (.ref q), z9, za, yb, yc, yd] ∧ But b H5 H' ∧ Bag H' b) ?_ ?_
      · walk_at "go"
        refine ⟨b, p, j, ts, 13, c, rfl, b5, hp5, hj5, ep, by decide, c1, c2, fun lo vs H6 nlo bu6 b6 hlo lvs ho => ?_⟩
        have lob : lo ≠ b := fun z => by
          subst z
          obtain ⟨_, _, _, e, _⟩ := b5
          rw [nlo] at e
          cases e
        walk_at "go"
        refine u_forL (.of hlo) (fun i σ H' => ∃ z9 za : Option V, σ = [y0, some (.str "abcdefghijklmnopqrstuvwxyz"), y2, some (.int cell), some (.ref b), some (.ref j), some (.ref p), some (.str nm), some (.ref q), z9, za, yb, yc, yd] ∧ Same H6 H') ⟨_, _, rfl, Same.refl _⟩ ?_ ?_ ?_
        · rintro i σ H' _ ⟨z9, za, rfl, sm'⟩
          exact .of (sm' _ _ hlo)
        · rintro i v σ H' hv ⟨z9, za, rfl, sm'⟩
          obtain ⟨t, a', d', ts', n', c', rfl, ht, ha', hd', ec', hn', lz', nar'⟩ := (ho v (List.mem_of_getElem? hv)).same sm'
          walk_at "go"
          refine r_isNRg ?_
          walk_at "go"
          refine ⟨a', d', nm, ts', n', c', rfl, ha', hd', ec', hn', nm1, lz', nar', fun q' H7 s7 hq' => ?_⟩
          walk_at "go"
          refine r_isNRg ?_
          walk_at "go"
          exact ⟨_, _, rfl, sm'.trans s7⟩
        · rintro σ H' ⟨z9, za, rfl, sm'⟩
          exact ⟨_, _, rfl, bu6.trans (Same.but sm' b), b6.same sm'⟩
      · rintro σ H6 ⟨z9, za, rfl, bu6, b6⟩
        have hp6 := hp5.stay (Stay.bag bu6 b5)
        have hj6 := hj5.bagK b5 bu6
        have hq6 := hq.tk (Tk.but bu6 b5)
        have buC := buB.trans bu6
        clear hp5 hj5 b5 buB bu6 hq
        walk_at "go"
        refine r_cut (fun σ H' => ∃ zb : Option V, σ = [y0, some (.str "abcdefghijklmnopqrstuvwxyz"), y2, some (.int cell), some (.ref b), some (.ref j), some (.ref p), some (.str nm), some (.ref q), z9, za, zb, yc, yd] ∧ But b H6 H' ∧ Bag H' b) ?_ ?_
        · walk_at "go"
          refine ⟨b, j, 13, c, rfl, b6, hj6, by decide, fun p1 ts1 H7 bu7 b7 hp1 ep1 lp1 => ?_⟩
          have hp7 := hp6.stay (Stay.bag bu7 b6)
          have hj7 := hj6.bagK b6 bu7
          have hq7 := hq6.tk (Tk.but bu7 b6)
          walk_at "go"
          refine u_shl hp7 (by omega) fun p2 ts2 H8 s8 hp2 ep2 lp2 => ?_
          walk_at "go"
          refine u_shl hp2 (by omega) fun p3 ts3 H9 s9 hp3 ep3 lp3 => ?_
          have s79 := s8.trans s9
          have b9 := b7.same s79
          walk_at "go"
          refine ⟨b, j, 13, c, rfl, b9, hj7.same s79, by decide, fun p4 ts4 Ha bua ba hp4 ep4 lp4 => ?_⟩
          have e1 : ts1 = ts := by
            obtain ⟨_, _, _, _, _, _, z⟩ := hp1
            exact z.ext canon fun k => (ep1 k).trans (ep k).symm
          have e3 : ts3 = ts := by
            obtain ⟨_, _, _, _, _, _, z⟩ := hp3
            exact z.ext canon fun k => by rw [ep3, ep2]; congr 1; omega
          have e4 : ts4 = ts := by
            obtain ⟨_, _, _, _, _, _, z⟩ := hp4
            exact z.ext canon fun k => (ep4 k).trans (ep k).symm
          rw [e1] at hp1
          rw [e3] at hp3
          rw [e4] at hp4
          have st9 := Stay.bag bua b9
          have hp1a := (hp1.same s79).stay st9
          have hp3a := hp3.stay st9
          have hqa := (hq7.tk (Tk.same s79)).tk (Tk.but bua b9)
          have bu6a := (bu7.trans (Same.but s79 b)).trans bua
          clear hp1 hp3 st9 bua b9 s79 s9 s8 hp2 hp7 hj7 hq7 bu7 b7 ep1 ep2 ep3 ep4 e1 e3 e4 lp1 lp2 lp3 lp4
          walk_at "go"
          intro ll nll
          have sl2 := Same.new0 (o := .lst [.ref p1, .ref p3, .ref p4]) nll
          have ell : upd Ha ll (.lst [.ref p1, .ref p3, .ref p4]) ll = some (.lst [.ref p1, .ref p3, .ref p4]) := upd_same
          have hp1b := hp1a.same sl2
          have hp3b := hp3a.same sl2
          have hp4b := hp4.same sl2
          have hqb := hqa.tk (Tk.same sl2)
          have bb := ba.same sl2
          have bu6b := bu6a.trans (Same.but sl2 b)
          generalize upd Ha ll (.lst [.ref p1, .ref p3, .ref p4]) = Hb at *
          clear hp1a hp3a hp4 hqa ba bu6a sl2 nll
          walk_at "go"
          refine u_forL (.of ell) (fun i σ H' => ∃ zb : Option V, σ = [y0, some (.str "abcdefghijklmnopqrstuvwxyz"), y2, some (.int cell), some (.ref b), some (.ref j), some (.ref p), some (.str nm), some (.ref q), z9, za, zb, yc, yd] ∧ Same Hb H') ⟨_, rfl, Same.refl _⟩ ?_ ?_ ?_
          · rintro i σ H' _ ⟨zb, rfl, sm'⟩
            exact .of (sm' _ _ ell)
          · rintro i v σ H' hv ⟨zb, rfl, sm'⟩
            obtain ⟨pv, rfl, hpv⟩ : ∃ pv, v = V.ref pv ∧ PolyAt C Hb pv ts := by
              rcases i with _ | _ | _ | i
              · cases hv; exact ⟨p1, rfl, hp1b⟩
              · cases hv; exact ⟨p3, rfl, hp3b⟩
              · cases hv; exact ⟨p4, rfl, hp4b⟩
              · cases hv
            walk_at "go"
            refine ⟨pv, ts, nm, rfl, hpv.same sm', nm1, by omega, fun q' Hc sc hq' => ?_⟩
            walk_at "go"
            refine ⟨_, _, rfl, (same_pr4 hq' (hqb.tk (Tk.same (sm'.trans sc))) wf0 (by omega)).leD (by decide), fun Hd sd => ?_⟩
            walk_at "go"
            exact ⟨_, rfl, (sm'.trans sc).trans sd⟩
          · rintro σ H' ⟨zb, rfl, sm'⟩
            exact ⟨_, rfl, bu6b.trans (Same.but sm' b), bb.same sm'⟩
        · rintro σ H7 ⟨zb, rfl, bu7, b7⟩
          have hp7 := hp6.stay (Stay.bag bu7 b6)
          have hj7 := hj6.bagK b6 bu7
          have hq7 := hq6.tk (Tk.but bu7 b6)
          have buD := buC.trans bu7
          clear hp6 hj6 hq6 b6 bu7 buC
          walk_at "go"
          refine ⟨b, rfl, b7, fun bad H8 bu8 b8 hbad => ?_⟩
          have hp8 := hp7.stay (Stay.bag bu8 b7)
          have hj8 := hj7.bagK b7 bu8
          have hq8 := hq7.tk (Tk.but bu8 b7)
          have buE := buD.trans bu8
          clear hp7 hj7 hq7 b7 bu8 buD
          walk_at "go"
          refine r_cut (fun σ H' => ∃ wrong : V, σ = [y0, some (.str "abcdefghijklmnopqrstuvwxyz"), y2, some (.int cell), some (.ref b), some (.ref j), some (.ref p), some (.str nm), some (.ref q), z9, za, zb, some bad, some wrong] ∧ But b H8 H' ∧ Bag H' b ∧ BadN K H' wrong) ?_ ?_
          · walk_at "go"
            intro la nla
            have laB := b8.ne nla
            have b9 := b8.keep nla (o := .lst [.str "a"])
            have s9 := Same.new0 (o := .lst [.str "a"]) nla
            have ela : upd H8 la (.lst [.str "a"]) la = some (.lst [.str "a"]) := upd_same
            generalize upd H8 la (.lst [.str "a"]) = H9 at *
            walk_at "go"
            intro ta nta
            have taB := b9.ne nta
            have b10 := b9.keep nta (o := .tup [.str "a"])
            have s10 := s9.trans (Same.new0 (o := .tup [.str "a"]) nta)
            have ela := h_keep ela nta (o := .tup [.str "a"])
            have eta : upd H9 ta (.tup [.str "a"]) ta = some (.tup [.str "a"]) := upd_same
            generalize upd H9 ta (.tup [.str "a"]) = H10 at *
            walk_at "go"
            intro xa nxa
            have xaB := b10.ne nxa
            have b11 := b10.keep nxa (o := ExO (.ref A_InvalidName) xa)
            have s11 := s10.trans (Same.new0 (o := ExO (.ref A_InvalidName) xa) nxa)
            have ela := h_keep ela nxa (o := ExO (.ref A_InvalidName) xa)
            have eta := h_keep eta nxa (o := ExO (.ref A_InvalidName) xa)
            have exa : upd H10 xa (ExO (.ref A_InvalidName) xa) xa = some (ExO (.ref A_InvalidName) xa) := upd_same
            generalize upd H10 xa (ExO (.ref A_InvalidName) xa) = H11 at *
            walk_at "go"
            intro lw nlw
            have lwB := b11.ne nlw
            have b12 := b11.keep nlw (o := .lst [.non, .str "", .str "ab", .str "A", .str "1", .int 1, .bl true, .ref la, .ref ta, .str " ", .str "{", .ref xa])
            have s12 := s11.trans (Same.new0 (o := .lst [.non, .str "", .str "ab", .str "A", .str "1", .int 1, .bl true, .ref la, .ref ta, .str " ", .str "{", .ref xa]) nlw)
            have ela := h_keep ela nlw (o := .lst [.non, .str "", .str "ab", .str "A", .str "1", .int 1, .bl true, .ref la, .ref ta, .str " ", .str "{", .ref xa])
            have eta := h_keep eta nlw (o := .lst [.non, .str "", .str "ab", .str "A", .str "1", .int 1, .bl true, .ref la, .ref ta, .str " ", .str "{", .ref xa])
            have exa := h_keep exa nlw (o := .lst [.non, .str "", .str "ab", .str "A", .str "1", .int 1, .bl true, .ref la, .ref ta, .str " ", .str "{", .ref xa])
            have elw : upd H11 lw (.lst [.non, .str "", .str "ab", .str "A", .str "1", .int 1, .bl true, .ref la, .ref ta, .str " ", .str "{", .ref xa]) lw = some (.lst [.non, .str "", .str "ab", .str "A", .str "1", .int 1, .bl true, .ref la, .ref ta, .str " ", .str "{", .ref xa]) := upd_same
            generalize upd H11 lw (.lst [.non, .str "", .str "ab", .str "A", .str "1", .int 1, .bl true, .ref la, .ref ta, .str " ", .str "{", .ref xa]) = H12 at *
            walk_at "go"
            refine u_pick b12 (by decide) (by decide) fun r2 H13 r20 r21 bu13 b13 => ?_
            have ela := bu13 _ _ laB ela
            have eta := bu13 _ _ taB eta
            have exa := bu13 _ _ xaB exa
            have elw := bu13 _ _ lwB elw
            obtain ⟨wv, ewv, hwv⟩ : ∃ wv, atI [V.non, .str "", .str "ab", .str "A", .str "1", .int 1, .bl true, .ref la, .ref ta, .str " ", .str "{", .ref xa] r2 = some wv ∧ BadN K H13 wv := by
              have nm : ∀ s : Str, s ∈ ([("" : Str), "ab", "A", "1", " ", "{"] : List Str) → BadN K H13 (.str s) := fun s hs => .inl ⟨s, rfl, hs⟩
              have e := (by omega : r2 = 0 ∨ r2 = 1 ∨ r2 = 2 ∨ r2 = 3 ∨ r2 = 4 ∨ r2 = 5 ∨ r2 = 6 ∨ r2 = 7 ∨ r2 = 8 ∨ r2 = 9 ∨ r2 = 10 ∨ r2 = 11)
              rcases e with rfl | rfl | rfl | rfl | rfl | rfl | rfl | rfl | rfl | rfl | rfl | rfl
              · exact ⟨_, rfl, .inr fun _ _ => ⟨_, .x (.base .non), kit_ty (by decide +kernel)⟩⟩
              · exact ⟨_, rfl, nm _ (by simp)⟩
              · exact ⟨_, rfl, nm _ (by simp)⟩
              · exact ⟨_, rfl, nm _ (by simp)⟩
              · exact ⟨_, rfl, nm _ (by simp)⟩
              · exact ⟨_, rfl, .inr fun _ _ => ⟨_, .x ty_int, kit_ty (by decide +kernel)⟩⟩
              · exact ⟨_, rfl, .inr fun _ _ => ⟨_, .x ty_bl, kit_ty (by decide +kernel)⟩⟩
              · exact ⟨_, rfl, .inr fun _ s => ⟨_, .x (ty_lst (s _ _ ela)), kit_ty (by decide +kernel)⟩⟩
              · exact ⟨_, rfl, .inr fun _ s => ⟨_, .x (ty_tup (s _ _ eta)), kit_ty (by decide +kernel)⟩⟩
              · exact ⟨_, rfl, nm _ (by simp)⟩
              · exact ⟨_, rfl, nm _ (by simp)⟩
              · exact ⟨_, rfl, .inr fun _ s => ⟨_, .exc (s _ _ exa) X_InvalidName.e, uNs⟩⟩
            walk_at "go"
            refine r_ixL (.of elw) ewv ?_
            walk_at "go"
            exact ⟨wv, rfl, (Same.but s12 b).trans bu13, b13, hwv⟩
          · rintro σ H9 ⟨wrong, rfl, bu9, b9, hwr⟩
            have hbad9 := hbad.but bu9
            have hp9 := hp8.stay (Stay.bag bu9 b8)
            have hj9 := hj8.bagK b8 bu9
            have hq9 := hq8.tk (Tk.but bu9 b8)
            have buF := buE.trans bu9
            clear hp8 hj8 hq8 b8 bu9 buE hbad
            walk_at "go"
            refine r_cut (fun σ H' => σ = [y0, some (.str "abcdefghijklmnopqrstuvwxyz"), y2, some (.int cell), some (.ref b), some (.ref j), some (.ref p), some (.str nm), some (.ref q), z9, za, zb, some bad, some wrong] ∧ Same H9 H') ?_ ?_
            · walk_at "go"
              refine ⟨_, _, rfl, .inl ⟨hbad9.now, fun l1 Ha sa hl1 => ?_⟩⟩
              walk_at "go"
              intro u1 nu1
              walk_at "go"
              intro u2 nu2
              walk_at "go"
              refine r_rep (xs := [.bl false]) upd_same (by decide) (by decide) (by decide) fun u3 nu3 => ?_
              refine r_cat (xs := [.bl true]) (h_keep (h_keep upd_same nu2) nu3) upd_same (by decide) ?_
              intro u4 nu4
              have su : Same Ha (upd (upd (upd (upd Ha u1 (.lst [.bl true])) u2 (.lst [.bl false])) u3 (.lst (List.replicate (Int.toNat 6) [V.bl false]).flatten)) u4 (.lst ([.bl true] ++ (List.replicate (Int.toNat 6) [V.bl false]).flatten))) := Same.new (Same.new (Same.new (Same.new0 nu1) nu2) nu3) nu4
              refine r_neBs (bs := [true, false, false, false, false, false, false]) (cs := [true, false, false, false, false, false, false]) (su _ _ hl1) upd_same ?_
              generalize upd (upd (upd (upd Ha u1 (.lst [.bl true])) u2 (.lst [.bl false])) u3 (.lst (List.replicate (Int.toNat 6) [V.bl false]).flatten)) u4 (.lst ([.bl true] ++ (List.replicate (Int.toNat 6) [V.bl false]).flatten)) = uH at *
              rw [decide_eq_true (rfl : ([true, false, false, false, false, false, false] : List Bool) = [true, false, false, false, false, false, false])]
              walk_at "go"
              have sau := sa.trans su
              refine ⟨_, _, rfl, .inl ⟨(hbad9.but (Same.but sau b)).now, fun l2 Hb sb hl2 => ?_⟩⟩
              walk_at "go"
              intro v1 nv1
              walk_at "go"
              intro v2 nv2
              walk_at "go"
              refine r_rep (xs := [.bl false]) upd_same (by decide) (by decide) (by decide) fun v3 nv3 => ?_
              refine r_cat (xs := [.bl true]) (h_keep (h_keep upd_same nv2) nv3) upd_same (by decide) ?_
              intro v4 nv4
              have sv : Same Hb (upd (upd (upd (upd Hb v1 (.lst [.bl true])) v2 (.lst [.bl false])) v3 (.lst (List.replicate (Int.toNat 6) [V.bl false]).flatten)) v4 (.lst ([.bl true] ++ (List.replicate (Int.toNat 6) [V.bl false]).flatten))) := Same.new (Same.new (Same.new (Same.new0 nv1) nv2) nv3) nv4
              refine r_neBs (bs := [true, false, false, false, false, false, false]) (cs := [true, false, false, false, false, false, false]) (sv _ _ hl2) upd_same ?_
              generalize upd (upd (upd (upd Hb v1 (.lst [.bl true])) v2 (.lst [.bl false])) v3 (.lst (List.replicate (Int.toNat 6) [V.bl false]).flatten)) v4 (.lst ([.bl true] ++ (List.replicate (Int.toNat 6) [V.bl false]).flatten)) = vH at *
              rw [decide_eq_true (rfl : ([true, false, false, false, false, false, false] : List Bool) = [true, false, false, false, false, false, false])]
              walk_at "go"
              exact ⟨rfl, (sau.trans sb).trans sv⟩
            · rintro σ Ha ⟨rfl, sa⟩
              have hp_ := hp9.same sa
              have hwr_ := hwr.same sa
              walk_at "go"
              refine r_cut (fun σ H' => σ = [y0, some (.str "abcdefghijklmnopqrstuvwxyz"), y2, some (.int cell), some (.ref b), some (.ref j), some (.ref p), some (.str nm), some (.ref q), z9, za, zb, some bad, some wrong] ∧ Same Ha H') ?_ ?_
              · walk_at "go"
                refine ⟨_, _, rfl, .inr ⟨p, ts, rfl, hp_, hwr_, fun l1 Hb sb hl1 => ?_⟩⟩
                walk_at "go"
                intro u1 nu1
                walk_at "go"
                intro u2 nu2
                walk_at "go"
                refine r_rep (xs := [.bl false]) upd_same (by decide) (by decide) (by decide) fun u3 nu3 => ?_
                refine r_cat (xs := [.bl false, .bl true]) (h_keep (h_keep upd_same nu2) nu3) upd_same (by decide) ?_
                intro u4 nu4
                have su : Same Hb (upd (upd (upd (upd Hb u1 (.lst [.bl false, .bl true])) u2 (.lst [.bl false])) u3 (.lst (List.replicate (Int.toNat 5) [V.bl false]).flatten)) u4 (.lst ([.bl false, .bl true] ++ (List.replicate (Int.toNat 5) [V.bl false]).flatten))) := Same.new (Same.new (Same.new (Same.new0 nu1) nu2) nu3) nu4
                refine r_neBs (bs := [false, true, false, false, false, false, false]) (cs := [false, true, false, false, false, false, false]) (su _ _ hl1) upd_same ?_
                generalize upd (upd (upd (upd Hb u1 (.lst [.bl false, .bl true])) u2 (.lst [.bl false])) u3 (.lst (List.replicate (Int.toNat 5) [V.bl false]).flatten)) u4 (.lst ([.bl false, .bl true] ++ (List.replicate (Int.toNat 5) [V.bl false]).flatten)) = uH at *
                rw [decide_eq_true (rfl : ([false, true, false, false, false, false, false] : List Bool) = [false, true, false, false, false, false, false])]
                walk_at "go"
                have sau := sb.trans su
                refine ⟨_, _, rfl, .inl ⟨(np_int (H := uH) (b := b) G_Poly 1).now, fun l2 Hc sc hl2 => ?_⟩⟩
                walk_at "go"
                intro v1 nv1
                walk_at "go"
                intro v2 nv2
                walk_at "go"
                refine r_rep (xs := [.bl false]) upd_same (by decide) (by decide) (by decide) fun v3 nv3 => ?_
                refine r_cat (xs := [.bl true]) (h_keep (h_keep upd_same nv2) nv3) upd_same (by decide) ?_
                intro v4 nv4
                have sv : Same Hc (upd (upd (upd (upd Hc v1 (.lst [.bl true])) v2 (.lst [.bl false])) v3 (.lst (List.replicate (Int.toNat 6) [V.bl false]).flatten)) v4 (.lst ([.bl true] ++ (List.replicate (Int.toNat 6) [V.bl false]).flatten))) := Same.new (Same.new (Same.new (Same.new0 nv1) nv2) nv3) nv4
                refine r_neBs (bs := [true, false, false, false, false, false, false]) (cs := [true, false, false, false, false, false, false]) (sv _ _ hl2) upd_same ?_
                generalize upd (upd (upd (upd Hc v1 (.lst [.bl true])) v2 (.lst [.bl false])) v3 (.lst (List.replicate (Int.toNat 6) [V.bl false]).flatten)) v4 (.lst ([.bl true] ++ (List.replicate (Int.toNat 6) [V.bl false]).flatten)) = vH at *
                rw [decide_eq_true (rfl : ([true, false, false, false, false, false, false] : List Bool) = [true, false, false, false, false, false, false])]
                walk_at "go"
                exact ⟨rfl, (sau.trans sc).trans sv⟩
              · rintro σ Hb ⟨rfl, sb⟩
                have sab := sa.trans sb
                have hp_ := hp9.same sab
                have hj_ := hj9.same sab
                have hq_ := hq9.tk (Tk.same sab)
                walk_at "go"
                refine ⟨p, ts, j, 13, c, rfl, hp_, hj_, ep, by decide, by omega, fun Hc sc => ?_⟩
                walk_at "go"
                refine ⟨p, ts, nm, rfl, hp_.same sc, nm1, by omega, fun q' Hd sd hq' => ?_⟩
                walk_at "go"
                refine ⟨_, _, rfl, (same_pr4 hq' (hq_.tk (Tk.same (sc.trans sd))) wf0 (by omega)).leD (by decide), fun He se => ?_⟩
                walk_at "go"
                have sEnd := ((sab.trans sc).trans sd).trans se
                exact ⟨_, _, _, _, _, _, _, _, _, _, _, _, _, rfl, sm.trans (Same.but2 s1 nb (buF.trans (Same.but sEnd b)))⟩
    · rintro σ H' ⟨y0, y2, y3, y4, y5, y6, y7, y8, y9, ya, yb, yc, yd, rfl, sm⟩
      walk_at "go"
      exact k H'
end

set_option Elab.async false
set_option linter.all false
set_option maxRecDepth 100000
set_option maxHeartbeats 8000000

open PySem PySem.Spec PyProof.Rows L2
structure BlA (mg : Str → Option Value) : Prop where
  b_ValueError : mg "ValueError" = none
  b_abs : mg "abs" = none
  b_any : mg "any" = none
  b_iter : mg "iter" = none
  b_sorted : mg "sorted" = none
theorem all_mk {l : PySem.W.OpenLaw} {w : World} {K : PySem.W.Frag} {h : Heap} {mg : Str → Option Value} {fa f1 f2 f3 f4 f5 f6 f7 f8 f9 f10 f11 f12 f13 f14 f15 f16 f17 f18 f19 f20 f21 f22 f23 f24 f25 f26 f27 f28 f29 f30 f31 f32 f33 f34 f35 f36 f37 f38 f39 f40 f41 f42 f43 f44 f45 f46 f47 f48 f49 f50 f51 f52 f53 f54 : Addr} (X : K.In h) (G : h.Ns mainGlobals mg) (hfa : mg "law" = some (.ref fa))
    {od20 an20 od54 an54 : Option Addr} {sl20 sl54 : Array (Option Value)} {oc20 kV20 dc20 pm20 cd20 ct20 oc54 kV54 dc54 pm54 cd54 ct54 : Value}
    {C : Addr} {cdP : ClassData} {foGNlshift roGNlshift : Option Value} {A_AngleError : Addr} {cd_AngleError : ClassData} {A_InvalidPoly : Addr} {cd_InvalidPoly : ClassData} {A_InvalidName : Addr} {cd_InvalidName : ClassData} {A_InvalidOrders : Addr} {cd_InvalidOrders : ClassData} {A_NoProgram : Addr} {cd_NoProgram : ClassData} {A_InvalidOrder : Addr} {cd_InvalidOrder : ClassData} {A_InvalidNumber : Addr} {cd_InvalidNumber : ClassData} {A_InvalidProgram : Addr} {cd_InvalidProgram : ClassData}
    (aC : PySem.W.nsIn K mainGlobals "Poly" = some (some (.ref C)))
    (pgP : PySem.W.plainGet K C Str.empty = true)
    (hdP : PySem.W.hasDictIn K C = true)
    (poP : PySem.W.plainOver K C = true)
    (saP : PySem.W.findIn K (.ref C) "__setattr__" = some (some (.builtin "object.__setattr__")))
    (mk_Poly : PySem.W.makesIn K C = true)
    (kc_Poly : PySem.W.keepIn K (.ref C) = true)
    (nRP : PySem.W.findIn K (.ref C) "rows" = some none)
    (sfP : PySem.W.selfFirst K C = true)
    (icP : PySem.W.clsIn K C = some cdP)
    (moP : cdP.mro = [.ref C, .type "object"])
    (caP : PySem.W.findIn K (.ref C) "__class__" = some (some (.builtin "object.__class__")))
    (cnP : PySem.W.specialIn K (.builtin "object.__class__") "__get__" = some (some (.builtin "getset_descriptor.__get__")))
    (ctP : PySem.W.takesIn K (.builtin "object.__class__") = some true)
    (cmP : PySem.W.mroIn K C (.type "object") = some true)
    (tyP : PySem.W.typeIn K (.ref C) = some (.type "type"))
    (s1P : PySem.W.subIn K (.type "int") (.ref C) = some false)
    (s2P : PySem.W.subIn K (.type "bool") (.ref C) = some false)
    (s3P : PySem.W.subIn K (.type "str") (.ref C) = some false)
    (s4P : PySem.W.subIn K (.type "list") (.ref C) = some false)
    (s5P : PySem.W.subIn K (.type "tuple") (.ref C) = some false)
    (s6P : PySem.W.subIn K (.type "NoneType") (.ref C) = some false)
    (t1P : PySem.W.subIn K (.ref C) (.type "int") = some false)
    (t2P : PySem.W.subIn K (.ref C) (.type "bool") = some false)
    (t3P : PySem.W.subIn K (.ref C) (.type "list") = some false)
    (t4P : PySem.W.subIn K (.ref C) (.type "tuple") = some false)
    (xAngleErrorg : PySem.W.nsIn K mainGlobals "AngleError" = some (some (.ref A_AngleError)))
    (xAngleErrorxi : PySem.W.excIn K A_AngleError [.type "ValueError", .type "Exception", .type "BaseException", .type "object"] "ValueError.__new__" = true)
    (xAngleErrork : PySem.W.keepIn K (.ref A_AngleError) = true)
    (xAngleErrorb : PySem.W.subIn K (.ref A_AngleError) (.type "BaseException") = some true)
    (xAngleErrort : PySem.W.typeIn K (.ref A_AngleError) = some (.type "type"))
    (xAngleErrorga : PySem.W.findIn K (.ref A_AngleError) "__getattribute__" = some (some (.builtin "BaseException.__getattribute__")))
    (xAngleErrorgt : PySem.W.findIn K (.ref A_AngleError) "__getattr__" = some none)
    (xAngleErrord : PySem.W.hasDictIn K A_AngleError = true)
    (xAngleErrorcl : PySem.W.findIn K (.ref A_AngleError) "__class__" = some (some (.builtin "object.__class__")))
    (xAngleErrorcn : PySem.W.specialIn K (.builtin "object.__class__") "__get__" = some (some (.builtin "getset_descriptor.__get__")))
    (xAngleErrorct : PySem.W.takesIn K (.builtin "object.__class__") = some true)
    (xAngleErrormr : PySem.W.mroIn K A_AngleError (.type "object") = some true)
    (xAngleErrorcs : PySem.W.clsIn K A_AngleError = some cd_AngleError)
    (xInvalidPolyg : PySem.W.nsIn K mainGlobals "InvalidPoly" = some (some (.ref A_InvalidPoly)))
    (xInvalidPolyxi : PySem.W.excIn K A_InvalidPoly [.type "ValueError", .type "Exception", .type "BaseException", .type "object"] "ValueError.__new__" = true)
    (xInvalidPolyk : PySem.W.keepIn K (.ref A_InvalidPoly) = true)
    (xInvalidPolyb : PySem.W.subIn K (.ref A_InvalidPoly) (.type "BaseException") = some true)
    (xInvalidPolyt : PySem.W.typeIn K (.ref A_InvalidPoly) = some (.type "type"))
    (xInvalidPolyga : PySem.W.findIn K (.ref A_InvalidPoly) "__getattribute__" = some (some (.builtin "BaseException.__getattribute__")))
    (xInvalidPolygt : PySem.W.findIn K (.ref A_InvalidPoly) "__getattr__" = some none)
    (xInvalidPolyd : PySem.W.hasDictIn K A_InvalidPoly = true)
    (xInvalidPolycl : PySem.W.findIn K (.ref A_InvalidPoly) "__class__" = some (some (.builtin "object.__class__")))
    (xInvalidPolycn : PySem.W.specialIn K (.builtin "object.__class__") "__get__" = some (some (.builtin "getset_descriptor.__get__")))
    (xInvalidPolyct : PySem.W.takesIn K (.builtin "object.__class__") = some true)
    (xInvalidPolymr : PySem.W.mroIn K A_InvalidPoly (.type "object") = some true)
    (xInvalidPolycs : PySem.W.clsIn K A_InvalidPoly = some cd_InvalidPoly)
    (xInvalidNameg : PySem.W.nsIn K mainGlobals "InvalidName" = some (some (.ref A_InvalidName)))
    (xInvalidNamexi : PySem.W.excIn K A_InvalidName [.type "ValueError", .type "Exception", .type "BaseException", .type "object"] "ValueError.__new__" = true)
    (xInvalidNamek : PySem.W.keepIn K (.ref A_InvalidName) = true)
    (xInvalidNameb : PySem.W.subIn K (.ref A_InvalidName) (.type "BaseException") = some true)
    (xInvalidNamet : PySem.W.typeIn K (.ref A_InvalidName) = some (.type "type"))
    (xInvalidNamega : PySem.W.findIn K (.ref A_InvalidName) "__getattribute__" = some (some (.builtin "BaseException.__getattribute__")))
    (xInvalidNamegt : PySem.W.findIn K (.ref A_InvalidName) "__getattr__" = some none)
    (xInvalidNamed : PySem.W.hasDictIn K A_InvalidName = true)
    (xInvalidNamecl : PySem.W.findIn K (.ref A_InvalidName) "__class__" = some (some (.builtin "object.__class__")))
    (xInvalidNamecn : PySem.W.specialIn K (.builtin "object.__class__") "__get__" = some (some (.builtin "getset_descriptor.__get__")))
    (xInvalidNamect : PySem.W.takesIn K (.builtin "object.__class__") = some true)
    (xInvalidNamemr : PySem.W.mroIn K A_InvalidName (.type "object") = some true)
    (xInvalidNamecs : PySem.W.clsIn K A_InvalidName = some cd_InvalidName)
    (xInvalidOrdersg : PySem.W.nsIn K mainGlobals "InvalidOrders" = some (some (.ref A_InvalidOrders)))
    (xInvalidOrdersxi : PySem.W.excIn K A_InvalidOrders [.type "ValueError", .type "Exception", .type "BaseException", .type "object"] "ValueError.__new__" = true)
    (xInvalidOrdersk : PySem.W.keepIn K (.ref A_InvalidOrders) = true)
    (xInvalidOrdersb : PySem.W.subIn K (.ref A_InvalidOrders) (.type "BaseException") = some true)
    (xInvalidOrderst : PySem.W.typeIn K (.ref A_InvalidOrders) = some (.type "type"))
    (xInvalidOrdersga : PySem.W.findIn K (.ref A_InvalidOrders) "__getattribute__" = some (some (.builtin "BaseException.__getattribute__")))
    (xInvalidOrdersgt : PySem.W.findIn K (.ref A_InvalidOrders) "__getattr__" = some none)
    (xInvalidOrdersd : PySem.W.hasDictIn K A_InvalidOrders = true)
    (xInvalidOrderscl : PySem.W.findIn K (.ref A_InvalidOrders) "__class__" = some (some (.builtin "object.__class__")))
    (xInvalidOrderscn : PySem.W.specialIn K (.builtin "object.__class__") "__get__" = some (some (.builtin "getset_descriptor.__get__")))
    (xInvalidOrdersct : PySem.W.takesIn K (.builtin "object.__class__") = some true)
    (xInvalidOrdersmr : PySem.W.mroIn K A_InvalidOrders (.type "object") = some true)
    (xInvalidOrderscs : PySem.W.clsIn K A_InvalidOrders = some cd_InvalidOrders)
    (xNoProgramg : PySem.W.nsIn K mainGlobals "NoProgram" = some (some (.ref A_NoProgram)))
    (xNoProgramxi : PySem.W.excIn K A_NoProgram [.type "ValueError", .type "Exception", .type "BaseException", .type "object"] "ValueError.__new__" = true)
    (xNoProgramk : PySem.W.keepIn K (.ref A_NoProgram) = true)
    (xNoProgramb : PySem.W.subIn K (.ref A_NoProgram) (.type "BaseException") = some true)
    (xNoProgramt : PySem.W.typeIn K (.ref A_NoProgram) = some (.type "type"))
    (xNoProgramga : PySem.W.findIn K (.ref A_NoProgram) "__getattribute__" = some (some (.builtin "BaseException.__getattribute__")))
    (xNoProgramgt : PySem.W.findIn K (.ref A_NoProgram) "__getattr__" = some none)
    (xNoProgramd : PySem.W.hasDictIn K A_NoProgram = true)
    (xNoProgramcl : PySem.W.findIn K (.ref A_NoProgram) "__class__" = some (some (.builtin "object.__class__")))
    (xNoProgramcn : PySem.W.specialIn K (.builtin "object.__class__") "__get__" = some (some (.builtin "getset_descriptor.__get__")))
    (xNoProgramct : PySem.W.takesIn K (.builtin "object.__class__") = some true)
    (xNoProgrammr : PySem.W.mroIn K A_NoProgram (.type "object") = some true)
    (xNoProgramcs : PySem.W.clsIn K A_NoProgram = some cd_NoProgram)
    (xInvalidOrderg : PySem.W.nsIn K mainGlobals "InvalidOrder" = some (some (.ref A_InvalidOrder)))
    (xInvalidOrderxi : PySem.W.excIn K A_InvalidOrder [.type "ValueError", .type "Exception", .type "BaseException", .type "object"] "ValueError.__new__" = true)
    (xInvalidOrderk : PySem.W.keepIn K (.ref A_InvalidOrder) = true)
    (xInvalidOrderb : PySem.W.subIn K (.ref A_InvalidOrder) (.type "BaseException") = some true)
    (xInvalidOrdert : PySem.W.typeIn K (.ref A_InvalidOrder) = some (.type "type"))
    (xInvalidOrderga : PySem.W.findIn K (.ref A_InvalidOrder) "__getattribute__" = some (some (.builtin "BaseException.__getattribute__")))
    (xInvalidOrdergt : PySem.W.findIn K (.ref A_InvalidOrder) "__getattr__" = some none)
    (xInvalidOrderd : PySem.W.hasDictIn K A_InvalidOrder = true)
    (xInvalidOrdercl : PySem.W.findIn K (.ref A_InvalidOrder) "__class__" = some (some (.builtin "object.__class__")))
    (xInvalidOrdercn : PySem.W.specialIn K (.builtin "object.__class__") "__get__" = some (some (.builtin "getset_descriptor.__get__")))
    (xInvalidOrderct : PySem.W.takesIn K (.builtin "object.__class__") = some true)
    (xInvalidOrdermr : PySem.W.mroIn K A_InvalidOrder (.type "object") = some true)
    (xInvalidOrdercs : PySem.W.clsIn K A_InvalidOrder = some cd_InvalidOrder)
    (xInvalidNumberg : PySem.W.nsIn K mainGlobals "InvalidNumber" = some (some (.ref A_InvalidNumber)))
    (xInvalidNumberxi : PySem.W.excIn K A_InvalidNumber [.type "ValueError", .type "Exception", .type "BaseException", .type "object"] "ValueError.__new__" = true)
    (xInvalidNumberk : PySem.W.keepIn K (.ref A_InvalidNumber) = true)
    (xInvalidNumberb : PySem.W.subIn K (.ref A_InvalidNumber) (.type "BaseException") = some true)
    (xInvalidNumbert : PySem.W.typeIn K (.ref A_InvalidNumber) = some (.type "type"))
    (xInvalidNumberga : PySem.W.findIn K (.ref A_InvalidNumber) "__getattribute__" = some (some (.builtin "BaseException.__getattribute__")))
    (xInvalidNumbergt : PySem.W.findIn K (.ref A_InvalidNumber) "__getattr__" = some none)
    (xInvalidNumberd : PySem.W.hasDictIn K A_InvalidNumber = true)
    (xInvalidNumbercl : PySem.W.findIn K (.ref A_InvalidNumber) "__class__" = some (some (.builtin "object.__class__")))
    (xInvalidNumbercn : PySem.W.specialIn K (.builtin "object.__class__") "__get__" = some (some (.builtin "getset_descriptor.__get__")))
    (xInvalidNumberct : PySem.W.takesIn K (.builtin "object.__class__") = some true)
    (xInvalidNumbermr : PySem.W.mroIn K A_InvalidNumber (.type "object") = some true)
    (xInvalidNumbercs : PySem.W.clsIn K A_InvalidNumber = some cd_InvalidNumber)
    (xInvalidProgramg : PySem.W.nsIn K mainGlobals "InvalidProgram" = some (some (.ref A_InvalidProgram)))
    (xInvalidProgramxi : PySem.W.excIn K A_InvalidProgram [.type "ValueError", .type "Exception", .type "BaseException", .type "object"] "ValueError.__new__" = true)
    (xInvalidProgramk : PySem.W.keepIn K (.ref A_InvalidProgram) = true)
    (xInvalidProgramb : PySem.W.subIn K (.ref A_InvalidProgram) (.type "BaseException") = some true)
    (xInvalidProgramt : PySem.W.typeIn K (.ref A_InvalidProgram) = some (.type "type"))
    (xInvalidProgramga : PySem.W.findIn K (.ref A_InvalidProgram) "__getattribute__" = some (some (.builtin "BaseException.__getattribute__")))
    (xInvalidProgramgt : PySem.W.findIn K (.ref A_InvalidProgram) "__getattr__" = some none)
    (xInvalidProgramd : PySem.W.hasDictIn K A_InvalidProgram = true)
    (xInvalidProgramcl : PySem.W.findIn K (.ref A_InvalidProgram) "__class__" = some (some (.builtin "object.__class__")))
    (xInvalidProgramcn : PySem.W.specialIn K (.builtin "object.__class__") "__get__" = some (some (.builtin "getset_descriptor.__get__")))
    (xInvalidProgramct : PySem.W.takesIn K (.builtin "object.__class__") = some true)
    (xInvalidProgrammr : PySem.W.mroIn K A_InvalidProgram (.type "object") = some true)
    (xInvalidProgramcs : PySem.W.clsIn K A_InvalidProgram = some cd_InvalidProgram)
    (uInvalidPoly_AngleError : PySem.W.subIn K (.ref A_InvalidPoly) (.ref A_AngleError) = some true)
    (uInvalidName_AngleError : PySem.W.subIn K (.ref A_InvalidName) (.ref A_AngleError) = some true)
    (uInvalidPoly_TValueError : PySem.W.subIn K (.ref A_InvalidPoly) (.type "ValueError") = some true)
    (uInvalidName_TValueError : PySem.W.subIn K (.ref A_InvalidName) (.type "ValueError") = some true)
    (uInvalidPoly_InvalidName : PySem.W.subIn K (.ref A_InvalidPoly) (.ref A_InvalidName) = some false)
    (uInvalidPoly_InvalidNamen : (Value.ref A_InvalidPoly == Value.ref A_InvalidName) = false)
    (uInvalidPoly_InvalidOrders : PySem.W.subIn K (.ref A_InvalidPoly) (.ref A_InvalidOrders) = some false)
    (uInvalidPoly_InvalidOrdersn : (Value.ref A_InvalidPoly == Value.ref A_InvalidOrders) = false)
    (uInvalidPoly_NoProgram : PySem.W.subIn K (.ref A_InvalidPoly) (.ref A_NoProgram) = some false)
    (uInvalidPoly_NoProgramn : (Value.ref A_InvalidPoly == Value.ref A_NoProgram) = false)
    (uInvalidPoly_InvalidOrder : PySem.W.subIn K (.ref A_InvalidPoly) (.ref A_InvalidOrder) = some false)
    (uInvalidPoly_InvalidOrdern : (Value.ref A_InvalidPoly == Value.ref A_InvalidOrder) = false)
    (uInvalidPoly_InvalidNumber : PySem.W.subIn K (.ref A_InvalidPoly) (.ref A_InvalidNumber) = some false)
    (uInvalidPoly_InvalidNumbern : (Value.ref A_InvalidPoly == Value.ref A_InvalidNumber) = false)
    (uInvalidPoly_InvalidProgram : PySem.W.subIn K (.ref A_InvalidPoly) (.ref A_InvalidProgram) = some false)
    (uInvalidPoly_InvalidProgramn : (Value.ref A_InvalidPoly == Value.ref A_InvalidProgram) = false)
    (uInvalidName_InvalidPoly : PySem.W.subIn K (.ref A_InvalidName) (.ref A_InvalidPoly) = some false)
    (uInvalidName_InvalidPolyn : (Value.ref A_InvalidName == Value.ref A_InvalidPoly) = false)
    (uInvalidName_InvalidOrders : PySem.W.subIn K (.ref A_InvalidName) (.ref A_InvalidOrders) = some false)
    (uInvalidName_InvalidOrdersn : (Value.ref A_InvalidName == Value.ref A_InvalidOrders) = false)
    (uInvalidName_NoProgram : PySem.W.subIn K (.ref A_InvalidName) (.ref A_NoProgram) = some false)
    (uInvalidName_NoProgramn : (Value.ref A_InvalidName == Value.ref A_NoProgram) = false)
    (uInvalidName_InvalidOrder : PySem.W.subIn K (.ref A_InvalidName) (.ref A_InvalidOrder) = some false)
    (uInvalidName_InvalidOrdern : (Value.ref A_InvalidName == Value.ref A_InvalidOrder) = false)
    (uInvalidName_InvalidNumber : PySem.W.subIn K (.ref A_InvalidName) (.ref A_InvalidNumber) = some false)
    (uInvalidName_InvalidNumbern : (Value.ref A_InvalidName == Value.ref A_InvalidNumber) = false)
    (uInvalidName_InvalidProgram : PySem.W.subIn K (.ref A_InvalidName) (.ref A_InvalidProgram) = some false)
    (uInvalidName_InvalidProgramn : (Value.ref A_InvalidName == Value.ref A_InvalidProgram) = false)
    (uInvalidName_Tstr : PySem.W.subIn K (.ref A_InvalidName) (.type "str") = some false)
    (uIP : PySem.W.subIn K (.ref A_InvalidPoly) (.ref C) = some false)
    (uIPn : (Value.ref A_InvalidPoly == Value.ref C) = false)
    (a1 : PySem.W.nsIn K mainGlobals "_law_bag_of" = some (some (.ref f1)))  (k1 : PySem.W.keepIn K (.ref f1) = true) (E1 : ∃ fd : FuncData, Fun K "_law_bag_of" "_law_bag_of" s_l_bag_of f1 fd)
    (a2 : PySem.W.nsIn K mainGlobals "_law_pick" = some (some (.ref f2)))  (k2 : PySem.W.keepIn K (.ref f2) = true) (E2 : ∃ fd : FuncData, Fun K "_law_pick" "_law_pick" s_l_pick f2 fd)
    (a3 : PySem.W.nsIn K mainGlobals "_law_drawable" = some (some (.ref f3)))  (k3 : PySem.W.keepIn K (.ref f3) = true) (E3 : ∃ fd : FuncData, Fun K "_law_drawable" "_law_drawable" s_l_drawable f3 fd)
    (a4 : PySem.W.nsIn K mainGlobals "is_integer" = some (some (.ref f4)))  (k4 : PySem.W.keepIn K (.ref f4) = true) (E4 : ∃ fd : FuncData, Fun K "is_integer" "is_integer" s_is_integer f4 fd)
    (a5 : PySem.W.nsIn K mainGlobals "is_term" = some (some (.ref f5)))  (k5 : PySem.W.keepIn K (.ref f5) = true) (E5 : ∃ fd : FuncData, Fun K "is_term" "is_term" s_is_term f5 fd)
    (a6 : PySem.W.nsIn K mainGlobals "summed" = some (some (.ref f6)))  (k6 : PySem.W.keepIn K (.ref f6) = true) (E6 : ∃ fd : FuncData, Fun K "summed" "summed" s_summed f6 fd)
    (a7 : PySem.W.findIn K (.ref C) "__init__" = some (some (.ref f7))) (i7 : PySem.W.isFn K (.ref f7) = true)
     (k7 : PySem.W.keepIn K (.ref f7) = true) (E7 : ∃ fd : FuncData, Fun K "__init__" "Poly.__init__" s_Poly___init__ f7 fd)
    (a8 : PySem.W.nsIn K mainGlobals "_law_terms_of" = some (some (.ref f8)))  (k8 : PySem.W.keepIn K (.ref f8) = true) (E8 : ∃ fd : FuncData, Fun K "_law_terms_of" "_law_terms_of" s_l_terms_of f8 fd)
    (a9 : PySem.W.nsIn K mainGlobals "check_poly" = some (some (.ref f9)))  (k9 : PySem.W.keepIn K (.ref f9) = true) (E9 : ∃ fd : FuncData, Fun K "check_poly" "check_poly" s_check_poly f9 fd)
    (a10 : PySem.W.nsIn K mainGlobals "as_poly" = some (some (.ref f10)))  (k10 : PySem.W.keepIn K (.ref f10) = true) (E10 : ∃ fd : FuncData, Fun K "as_poly" "as_poly" s_as_poly f10 fd)
    (a11 : PySem.W.findIn K (.ref C) "__add__" = some (some (.ref f11))) (i11 : PySem.W.isFn K (.ref f11) = true)
     (k11 : PySem.W.keepIn K (.ref f11) = true) (E11 : ∃ fd : FuncData, Fun K "__add__" "Poly.__add__" s_Poly___add__ f11 fd)
    (a12 : PySem.W.nsIn K mainGlobals "negative" = some (some (.ref f12)))  (k12 : PySem.W.keepIn K (.ref f12) = true) (E12 : ∃ fd : FuncData, Fun K "negative" "negative" s_negative f12 fd)
    (a13 : PySem.W.findIn K (.ref C) "__neg__" = some (some (.ref f13))) (i13 : PySem.W.isFn K (.ref f13) = true)
     (k13 : PySem.W.keepIn K (.ref f13) = true) (E13 : ∃ fd : FuncData, Fun K "__neg__" "Poly.__neg__" s_Poly___neg__ f13 fd)
    (a14 : PySem.W.findIn K (.ref C) "mirrored" = some (some (.ref f14))) (i14 : PySem.W.isFn K (.ref f14) = true)
     (k14 : PySem.W.keepIn K (.ref f14) = true) (E14 : ∃ fd : FuncData, Fun K "mirrored" "Poly.mirrored" s_Poly_mirrored f14 fd)
    (a15 : PySem.W.nsIn K mainGlobals "_law_made" = some (some (.ref f15)))  (k15 : PySem.W.keepIn K (.ref f15) = true) (E15 : ∃ fd : FuncData, Fun K "_law_made" "_law_made" s_l_made f15 fd)
    (a16 : PySem.W.nsIn K mainGlobals "is_name" = some (some (.ref f16)))  (k16 : PySem.W.keepIn K (.ref f16) = true) (E16 : ∃ fd : FuncData, Fun K "is_name" "is_name" s_is_name f16 fd)
    (a17 : PySem.W.nsIn K mainGlobals "check_name" = some (some (.ref f17)))  (k17 : PySem.W.keepIn K (.ref f17) = true) (E17 : ∃ fd : FuncData, Fun K "check_name" "check_name" s_check_name f17 fd)
    (a18 : PySem.W.findIn K (.ref C) "__iter__" = some (some (.ref f18))) (i18 : PySem.W.isFn K (.ref f18) = true)
     (k18 : PySem.W.keepIn K (.ref f18) = true) (E18 : ∃ fd : FuncData, Fun K "__iter__" "Poly.__iter__" s_Poly___iter__ f18 fd)
    (a19 : PySem.W.nsIn K mainGlobals "raw_drawing" = some (some (.ref f19)))  (k19 : PySem.W.keepIn K (.ref f19) = true) (E19 : ∃ fd : FuncData, Fun K "raw_drawing" "raw_drawing" s_raw_drawing f19 fd)
    (a20 : PySem.W.nsIn K mainGlobals "drawing" = some (some (.ref f20))) (l20 : K.lookup f20 = some ⟨oc20, od20, .func (PySem.W.fnOf "drawing" "drawing" (defArgs s_drawing) (defBody s_drawing) (defScope s_drawing) .none kV20 dc20 pm20 an20 cd20 ct20), sl20⟩) (c20 : PySem.W.codeIn K cd20 "drawing" = true) (k20 : PySem.W.keepIn K (.ref f20) = true)
    (a21 : PySem.W.nsIn K mainGlobals "_law_is_int" = some (some (.ref f21)))  (k21 : PySem.W.keepIn K (.ref f21) = true) (E21 : ∃ fd : FuncData, Fun K "_law_is_int" "_law_is_int" s_l_is_int f21 fd)
    (a22 : PySem.W.nsIn K mainGlobals "_law_is_piece" = some (some (.ref f22)))  (k22 : PySem.W.keepIn K (.ref f22) = true) (E22 : ∃ fd : FuncData, Fun K "_law_is_piece" "_law_is_piece" s_l_is_piece f22 fd)
    (a23 : PySem.W.nsIn K mainGlobals "_law_walked" = some (some (.ref f23)))  (k23 : PySem.W.keepIn K (.ref f23) = true) (E23 : ∃ fd : FuncData, Fun K "_law_walked" "_law_walked" s_l_walked f23 fd)
    (a24 : PySem.W.nsIn K mainGlobals "_law_same_piece" = some (some (.ref f24)))  (k24 : PySem.W.keepIn K (.ref f24) = true) (E24 : ∃ fd : FuncData, Fun K "_law_same_piece" "_law_same_piece" s_l_same_piece f24 fd)
    (a25 : PySem.W.nsIn K mainGlobals "_law_drawn" = some (some (.ref f25)))  (k25 : PySem.W.keepIn K (.ref f25) = true) (E25 : ∃ fd : FuncData, Fun K "_law_drawn" "_law_drawn" s_l_drawn f25 fd)
    (a26 : PySem.W.nsIn K mainGlobals "_law_jar_of" = some (some (.ref f26)))  (k26 : PySem.W.keepIn K (.ref f26) = true) (E26 : ∃ fd : FuncData, Fun K "_law_jar_of" "_law_jar_of" s_l_jar_of f26 fd)
    (a27 : PySem.W.nsIn K mainGlobals "_law_moved" = some (some (.ref f27)))  (k27 : PySem.W.keepIn K (.ref f27) = true) (E27 : ∃ fd : FuncData, Fun K "_law_moved" "_law_moved" s_l_moved f27 fd)
    (a28 : PySem.W.nsIn K mainGlobals "_law_times" = some (some (.ref f28)))  (k28 : PySem.W.keepIn K (.ref f28) = true) (E28 : ∃ fd : FuncData, Fun K "_law_times" "_law_times" s_l_times f28 fd)
    (a29 : PySem.W.nsIn K mainGlobals "is_order" = some (some (.ref f29)))  (k29 : PySem.W.keepIn K (.ref f29) = true) (E29 : ∃ fd : FuncData, Fun K "is_order" "is_order" s_is_order f29 fd)
    (a30 : PySem.W.nsIn K mainGlobals "check_order" = some (some (.ref f30)))  (k30 : PySem.W.keepIn K (.ref f30) = true) (E30 : ∃ fd : FuncData, Fun K "check_order" "check_order" s_check_order f30 fd)
    (a31 : PySem.W.nsIn K mainGlobals "primes_of" = some (some (.ref f31)))  (k31 : PySem.W.keepIn K (.ref f31) = true) (E31 : ∃ fd : FuncData, Fun K "primes_of" "primes_of" s_primes_of f31 fd)
    (a32 : PySem.W.nsIn K mainGlobals "check_divisor" = some (some (.ref f32)))  (k32 : PySem.W.keepIn K (.ref f32) = true) (E32 : ∃ fd : FuncData, Fun K "check_divisor" "check_divisor" s_check_divisor f32 fd)
    {p33 : Addr} {rs33 : List Value} (a33 : PySem.W.findIn K (.ref C) "span" = some (some (.ref p33))) (gp33 : PySem.W.specialIn K (.ref p33) "__get__" = some (some (.builtin "property.__get__"))) (tp33 : PySem.W.takesIn K (.ref p33) = some true) (i33 : PySem.W.recIn K p33 "property" = some (.ref f33 :: rs33))
     (k33 : PySem.W.keepIn K (.ref f33) = true) (E33 : ∃ fd : FuncData, Fun K "span" "Poly.span" s_Poly_span f33 fd)
    (a34 : PySem.W.nsIn K mainGlobals "division" = some (some (.ref f34)))  (k34 : PySem.W.keepIn K (.ref f34) = true) (E34 : ∃ fd : FuncData, Fun K "division" "division" s_division f34 fd)
    (a35 : PySem.W.findIn K (.ref C) "__floordiv__" = some (some (.ref f35))) (i35 : PySem.W.isFn K (.ref f35) = true)
     (k35 : PySem.W.keepIn K (.ref f35) = true) (E35 : ∃ fd : FuncData, Fun K "__floordiv__" "Poly.__floordiv__" s_Poly___floordiv__ f35 fd)
    (a36 : PySem.W.nsIn K mainGlobals "raw_ring" = some (some (.ref f36)))  (k36 : PySem.W.keepIn K (.ref f36) = true) (E36 : ∃ fd : FuncData, Fun K "raw_ring" "raw_ring" s_raw_ring f36 fd)
    (a37 : PySem.W.nsIn K mainGlobals "ring" = some (some (.ref f37)))  (k37 : PySem.W.keepIn K (.ref f37) = true) (E37 : ∃ fd : FuncData, Fun K "ring" "ring" s_ring f37 fd)
    (a38 : PySem.W.nsIn K mainGlobals "_law_primes" = some (some (.ref f38)))  (k38 : PySem.W.keepIn K (.ref f38) = true) (E38 : ∃ fd : FuncData, Fun K "_law_primes" "_law_primes" s_l_primes f38 fd)
    (a39 : PySem.W.nsIn K mainGlobals "_law_totient" = some (some (.ref f39)))  (k39 : PySem.W.keepIn K (.ref f39) = true) (E39 : ∃ fd : FuncData, Fun K "_law_totient" "_law_totient" s_l_totient f39 fd)
    (a40 : PySem.W.nsIn K mainGlobals "_law_ring_row" = some (some (.ref f40)))  (k40 : PySem.W.keepIn K (.ref f40) = true) (E40 : ∃ fd : FuncData, Fun K "_law_ring_row" "_law_ring_row" s_l_ring_row f40 fd)
    (a41 : PySem.W.nsIn K mainGlobals "_law_jar_row" = some (some (.ref f41)))  (k41 : PySem.W.keepIn K (.ref f41) = true) (E41 : ∃ fd : FuncData, Fun K "_law_jar_row" "_law_jar_row" s_l_jar_row f41 fd)
    (a42 : PySem.W.nsIn K mainGlobals "_law_ring_jar" = some (some (.ref f42)))  (k42 : PySem.W.keepIn K (.ref f42) = true) (E42 : ∃ fd : FuncData, Fun K "_law_ring_jar" "_law_ring_jar" s_l_ring_jar f42 fd)
    (a43 : PySem.W.nsIn K mainGlobals "check_number" = some (some (.ref f43)))  (k43 : PySem.W.keepIn K (.ref f43) = true) (E43 : ∃ fd : FuncData, Fun K "check_number" "check_number" s_check_number f43 fd)
    (a44 : PySem.W.findIn K (.ref C) "__lshift__" = some (some (.ref f44))) (i44 : PySem.W.isFn K (.ref f44) = true)
     (k44 : PySem.W.keepIn K (.ref f44) = true) (E44 : ∃ fd : FuncData, Fun K "__lshift__" "Poly.__lshift__" s_Poly___lshift__ f44 fd)
    (a45 : PySem.W.nsIn K mainGlobals "product" = some (some (.ref f45)))  (k45 : PySem.W.keepIn K (.ref f45) = true) (E45 : ∃ fd : FuncData, Fun K "product" "product" s_product f45 fd)
    (a46 : PySem.W.findIn K (.ref C) "__mul__" = some (some (.ref f46))) (i46 : PySem.W.isFn K (.ref f46) = true)
     (k46 : PySem.W.keepIn K (.ref f46) = true) (E46 : ∃ fd : FuncData, Fun K "__mul__" "Poly.__mul__" s_Poly___mul__ f46 fd)
    (a47 : PySem.W.nsIn K mainGlobals "_law_others" = some (some (.ref f47)))  (k47 : PySem.W.keepIn K (.ref f47) = true) (E47 : ∃ fd : FuncData, Fun K "_law_others" "_law_others" s_l_others f47 fd)
    (a48 : PySem.W.nsIn K mainGlobals "_law_odd" = some (some (.ref f48)))  (k48 : PySem.W.keepIn K (.ref f48) = true) (E48 : ∃ fd : FuncData, Fun K "_law_odd" "_law_odd" s_l_odd f48 fd)
    (a49 : PySem.W.nsIn K mainGlobals "_law_builds_codes" = some (some (.ref f49)))  (k49 : PySem.W.keepIn K (.ref f49) = true) (E49 : ∃ fd : FuncData, Fun K "_law_builds_codes" "_law_builds_codes" s_l_builds_codes f49 fd)
    (a50 : PySem.W.nsIn K mainGlobals "_law_asked" = some (some (.ref f50)))  (k50 : PySem.W.keepIn K (.ref f50) = true) (E50 : ∃ fd : FuncData, Fun K "_law_asked" "_law_asked" s_l_asked f50 fd)
    {p51 : Addr} {rs51 : List Value} (a51 : PySem.W.findIn K (.ref C) "terms" = some (some (.ref p51))) (gp51 : PySem.W.specialIn K (.ref p51) "__get__" = some (some (.builtin "property.__get__"))) (tp51 : PySem.W.takesIn K (.ref p51) = some true) (i51 : PySem.W.recIn K p51 "property" = some (.ref f51 :: rs51))
     (k51 : PySem.W.keepIn K (.ref f51) = true) (E51 : ∃ fd : FuncData, Fun K "terms" "Poly.terms" s_Poly_terms f51 fd)
    (a52 : PySem.W.findIn K (.ref C) "__len__" = some (some (.ref f52))) (i52 : PySem.W.isFn K (.ref f52) = true)
     (k52 : PySem.W.keepIn K (.ref f52) = true) (E52 : ∃ fd : FuncData, Fun K "__len__" "Poly.__len__" s_Poly___len__ f52 fd)
    (a53 : PySem.W.nsIn K mainGlobals "_law_is_poly" = some (some (.ref f53)))  (k53 : PySem.W.keepIn K (.ref f53) = true) (E53 : ∃ fd : FuncData, Fun K "_law_is_poly" "_law_is_poly" s_l_is_poly f53 fd)
    (a54 : PySem.W.nsIn K mainGlobals "law" = some (some (.ref f54))) (l54 : K.lookup f54 = some ⟨oc54, od54, .func (PySem.W.fnOf "law" "law" (defArgs s_law) (defBody s_law) (defScope s_law) .none kV54 dc54 pm54 an54 cd54 ct54), sl54⟩) (c54 : PySem.W.codeIn K cd54 "law" = true) (k54 : PySem.W.keepIn K (.ref f54) = true)
    (z_ValueError : PySem.W.nsIn K mainGlobals "ValueError" = some none) (z_abs : PySem.W.nsIn K mainGlobals "abs" = some none) (z_all : PySem.W.nsIn K mainGlobals "all" = some none) (z_any : PySem.W.nsIn K mainGlobals "any" = some none) (z_bool : PySem.W.nsIn K mainGlobals "bool" = some none) (z_int : PySem.W.nsIn K mainGlobals "int" = some none) (z_isinstance : PySem.W.nsIn K mainGlobals "isinstance" = some none) (z_iter : PySem.W.nsIn K mainGlobals "iter" = some none) (z_len : PySem.W.nsIn K mainGlobals "len" = some none) (z_list : PySem.W.nsIn K mainGlobals "list" = some none) (z_max : PySem.W.nsIn K mainGlobals "max" = some none) (z_min : PySem.W.nsIn K mainGlobals "min" = some none) (z_range : PySem.W.nsIn K mainGlobals "range" = some none) (z_sorted : PySem.W.nsIn K mainGlobals "sorted" = some none) (z_str : PySem.W.nsIn K mainGlobals "str" = some none) (z_sum : PySem.W.nsIn K mainGlobals "sum" = some none) (z_tuple : PySem.W.nsIn K mainGlobals "tuple" = some none)
    (aGNlshift : PySem.W.findIn K (.ref C) (dunderR "lshift") = some none)
    (bGNlshift : PySem.W.findIn K (.type "int") (PySem.dunder "lshift") = some foGNlshift)
    (cGNlshift : PySem.W.findIn K (.type "int") (dunderR "lshift") = some roGNlshift)
    : ∃ fd : FuncData, (∀ (s : Shared) (v : Value), BindsTo s fd ⟨[v], []⟩ [("_law_script", v)]) ∧ ∀ base : Heap, K.In base → base.Ns mainGlobals mg → FnOk l.prog w K mg base CX0 32 fa fd ["_law_script"] (spLaw K) := by
  cases (hfa.symm.trans (PySem.W.mg_of X G a54))
  obtain ⟨_, F_l_bag_of⟩ := E1
  have b_l_bag_of := F_l_bag_of.binds (ps := ["_law_cell"]) fun _ _ _ _ _ _ us hl => match us, hl with | [_], _ => rfl
  obtain ⟨_, F_l_pick⟩ := E2
  have b_l_pick := F_l_pick.binds (ps := ["_law_bag", "_law_many"]) fun _ _ _ _ _ _ us hl => match us, hl with | [_, _], _ => rfl
  obtain ⟨_, F_l_drawable⟩ := E3
  have b_l_drawable := F_l_drawable.binds (ps := ["_law_bag"]) fun _ _ _ _ _ _ us hl => match us, hl with | [_], _ => rfl
  obtain ⟨_, F_is_integer⟩ := E4
  have b_is_integer := F_is_integer.binds (ps := ["value"]) fun _ _ _ _ _ _ us hl => match us, hl with | [_], _ => rfl
  obtain ⟨_, F_is_term⟩ := E5
  have b_is_term := F_is_term.binds (ps := ["value"]) fun _ _ _ _ _ _ us hl => match us, hl with | [_], _ => rfl
  obtain ⟨_, F_summed⟩ := E6
  have b_summed := F_summed.binds (ps := ["terms"]) fun _ _ _ _ _ _ us hl => match us, hl with | [_], _ => rfl
  obtain ⟨_, F_Poly___init__⟩ := E7
  have b_Poly___init__ := F_Poly___init__.binds (ps := ["self", "terms"]) fun _ _ _ _ _ _ us hl => match us, hl with | [_, _], _ => rfl
  obtain ⟨_, F_l_terms_of⟩ := E8
  have b_l_terms_of := F_l_terms_of.binds (ps := ["_law_jar"]) fun _ _ _ _ _ _ us hl => match us, hl with | [_], _ => rfl
  obtain ⟨_, F_check_poly⟩ := E9
  have b_check_poly := F_check_poly.binds (ps := ["value"]) fun _ _ _ _ _ _ us hl => match us, hl with | [_], _ => rfl
  obtain ⟨_, F_as_poly⟩ := E10
  have b_as_poly := F_as_poly.binds (ps := ["value"]) fun _ _ _ _ _ _ us hl => match us, hl with | [_], _ => rfl
  obtain ⟨_, F_Poly___add__⟩ := E11
  have b_Poly___add__ := F_Poly___add__.binds (ps := ["self", "other"]) fun _ _ _ _ _ _ us hl => match us, hl with | [_, _], _ => rfl
  obtain ⟨_, F_negative⟩ := E12
  have b_negative := F_negative.binds (ps := ["poly"]) fun _ _ _ _ _ _ us hl => match us, hl with | [_], _ => rfl
  obtain ⟨_, F_Poly___neg__⟩ := E13
  have b_Poly___neg__ := F_Poly___neg__.binds (ps := ["self"]) fun _ _ _ _ _ _ us hl => match us, hl with | [_], _ => rfl
  obtain ⟨_, F_Poly_mirrored⟩ := E14
  have b_Poly_mirrored := F_Poly_mirrored.binds (ps := ["self"]) fun _ _ _ _ _ _ us hl => match us, hl with | [_], _ => rfl
  obtain ⟨_, F_l_made⟩ := E15
  have b_l_made := F_l_made.binds (ps := ["_law_bag", "_law_jar"]) fun _ _ _ _ _ _ us hl => match us, hl with | [_, _], _ => rfl
  obtain ⟨_, F_is_name⟩ := E16
  have b_is_name := F_is_name.binds (ps := ["value"]) fun _ _ _ _ _ _ us hl => match us, hl with | [_], _ => rfl
  obtain ⟨_, F_check_name⟩ := E17
  have b_check_name := F_check_name.binds (ps := ["value"]) fun _ _ _ _ _ _ us hl => match us, hl with | [_], _ => rfl
  obtain ⟨_, F_Poly___iter__⟩ := E18
  have b_Poly___iter__ := F_Poly___iter__.binds (ps := ["self"]) fun _ _ _ _ _ _ us hl => match us, hl with | [_], _ => rfl
  obtain ⟨_, F_raw_drawing⟩ := E19
  have b_raw_drawing := F_raw_drawing.binds (ps := ["poly", "name"]) fun _ _ _ _ _ _ us hl => match us, hl with | [_, _], _ => rfl
  have F_drawing := fun_mk (st := s_drawing) l20 c20 k20
  have b_drawing := F_drawing.binds (ps := ["poly", "name"]) fun _ _ _ _ _ _ us hl => match us, hl with | [_, _], _ => rfl
  obtain ⟨_, F_l_is_int⟩ := E21
  have b_l_is_int := F_l_is_int.binds (ps := ["_law_thing"]) fun _ _ _ _ _ _ us hl => match us, hl with | [_], _ => rfl
  obtain ⟨_, F_l_is_piece⟩ := E22
  have b_l_is_piece := F_l_is_piece.binds (ps := ["_law_thing"]) fun _ _ _ _ _ _ us hl => match us, hl with | [_], _ => rfl
  obtain ⟨_, F_l_walked⟩ := E23
  have b_l_walked := F_l_walked.binds (ps := ["_law_row"]) fun _ _ _ _ _ _ us hl => match us, hl with | [_], _ => rfl
  obtain ⟨_, F_l_same_piece⟩ := E24
  have b_l_same_piece := F_l_same_piece.binds (ps := ["_law_found", "_law_due"]) fun _ _ _ _ _ _ us hl => match us, hl with | [_, _], _ => rfl
  obtain ⟨_, F_l_drawn⟩ := E25
  have b_l_drawn := F_l_drawn.binds (ps := ["_law_poly", "_law_jar", "_law_who"]) fun _ _ _ _ _ _ us hl => match us, hl with | [_, _, _], _ => rfl
  obtain ⟨_, F_l_jar_of⟩ := E26
  have b_l_jar_of := F_l_jar_of.binds (ps := ["_law_rows"]) fun _ _ _ _ _ _ us hl => match us, hl with | [_], _ => rfl
  obtain ⟨_, F_l_moved⟩ := E27
  have b_l_moved := F_l_moved.binds (ps := ["_law_jar", "_law_shift"]) fun _ _ _ _ _ _ us hl => match us, hl with | [_, _], _ => rfl
  obtain ⟨_, F_l_times⟩ := E28
  have b_l_times := F_l_times.binds (ps := ["_law_one", "_law_two"]) fun _ _ _ _ _ _ us hl => match us, hl with | [_, _], _ => rfl
  obtain ⟨_, F_is_order⟩ := E29
  have b_is_order := F_is_order.binds (ps := ["value"]) fun _ _ _ _ _ _ us hl => match us, hl with | [_], _ => rfl
  obtain ⟨_, F_check_order⟩ := E30
  have b_check_order := F_check_order.binds (ps := ["value"]) fun _ _ _ _ _ _ us hl => match us, hl with | [_], _ => rfl
  obtain ⟨_, F_primes_of⟩ := E31
  have b_primes_of := F_primes_of.binds (ps := ["order"]) fun _ _ _ _ _ _ us hl => match us, hl with | [_], _ => rfl
  obtain ⟨_, F_check_divisor⟩ := E32
  have b_check_divisor := F_check_divisor.binds (ps := ["value"]) fun _ _ _ _ _ _ us hl => match us, hl with | [_], _ => rfl
  obtain ⟨_, F_Poly_span⟩ := E33
  have b_Poly_span := F_Poly_span.binds (ps := ["self"]) fun _ _ _ _ _ _ us hl => match us, hl with | [_], _ => rfl
  obtain ⟨_, F_division⟩ := E34
  have b_division := F_division.binds (ps := ["poly", "divisor"]) fun _ _ _ _ _ _ us hl => match us, hl with | [_, _], _ => rfl
  obtain ⟨_, F_Poly___floordiv__⟩ := E35
  have b_Poly___floordiv__ := F_Poly___floordiv__.binds (ps := ["self", "divisor"]) fun _ _ _ _ _ _ us hl => match us, hl with | [_, _], _ => rfl
  obtain ⟨_, F_raw_ring⟩ := E36
  have b_raw_ring := F_raw_ring.binds (ps := ["order"]) fun _ _ _ _ _ _ us hl => match us, hl with | [_], _ => rfl
  obtain ⟨_, F_ring⟩ := E37
  have b_ring := F_ring.binds (ps := ["order"]) fun _ _ _ _ _ _ us hl => match us, hl with | [_], _ => rfl
  obtain ⟨_, F_l_primes⟩ := E38
  have b_l_primes := F_l_primes.binds (ps := ["_law_cycle"]) fun _ _ _ _ _ _ us hl => match us, hl with | [_], _ => rfl
  obtain ⟨_, F_l_totient⟩ := E39
  have b_l_totient := F_l_totient.binds (ps := ["_law_cycle"]) fun _ _ _ _ _ _ us hl => match us, hl with | [_], _ => rfl
  obtain ⟨_, F_l_ring_row⟩ := E40
  have b_l_ring_row := F_l_ring_row.binds (ps := ["_law_cycle"]) fun _ _ _ _ _ _ us hl => match us, hl with | [_], _ => rfl
  obtain ⟨_, F_l_jar_row⟩ := E41
  have b_l_jar_row := F_l_jar_row.binds (ps := ["_law_row"]) fun _ _ _ _ _ _ us hl => match us, hl with | [_], _ => rfl
  obtain ⟨_, F_l_ring_jar⟩ := E42
  have b_l_ring_jar := F_l_ring_jar.binds (ps := ["_law_cycle"]) fun _ _ _ _ _ _ us hl => match us, hl with | [_], _ => rfl
  obtain ⟨_, F_check_number⟩ := E43
  have b_check_number := F_check_number.binds (ps := ["value"]) fun _ _ _ _ _ _ us hl => match us, hl with | [_], _ => rfl
  obtain ⟨_, F_Poly___lshift__⟩ := E44
  have b_Poly___lshift__ := F_Poly___lshift__.binds (ps := ["self", "number"]) fun _ _ _ _ _ _ us hl => match us, hl with | [_, _], _ => rfl
  obtain ⟨_, F_product⟩ := E45
  have b_product := F_product.binds (ps := ["one", "two"]) fun _ _ _ _ _ _ us hl => match us, hl with | [_, _], _ => rfl
  obtain ⟨_, F_Poly___mul__⟩ := E46
  have b_Poly___mul__ := F_Poly___mul__.binds (ps := ["self", "other"]) fun _ _ _ _ _ _ us hl => match us, hl with | [_, _], _ => rfl
  obtain ⟨_, F_l_others⟩ := E47
  have b_l_others := F_l_others.binds (ps := ["_law_bag", "_law_poly", "_law_jar"]) fun _ _ _ _ _ _ us hl => match us, hl with | [_, _, _], _ => rfl
  obtain ⟨_, F_l_odd⟩ := E48
  have b_l_odd := F_l_odd.binds (ps := ["_law_bag"]) fun _ _ _ _ _ _ us hl => match us, hl with | [_], _ => rfl
  obtain ⟨_, F_l_builds_codes⟩ := E49
  have b_l_builds_codes := F_l_builds_codes.binds (ps := ["_law_thing"]) fun _ _ _ _ _ _ us hl => match us, hl with | [_], _ => rfl
  obtain ⟨_, F_l_asked⟩ := E50
  have b_l_asked := F_l_asked.binds (ps := ["_law_poly", "_law_who"]) fun _ _ _ _ _ _ us hl => match us, hl with | [_, _], _ => rfl
  obtain ⟨_, F_Poly_terms⟩ := E51
  have b_Poly_terms := F_Poly_terms.binds (ps := ["self"]) fun _ _ _ _ _ _ us hl => match us, hl with | [_], _ => rfl
  obtain ⟨_, F_Poly___len__⟩ := E52
  have b_Poly___len__ := F_Poly___len__.binds (ps := ["self"]) fun _ _ _ _ _ _ us hl => match us, hl with | [_], _ => rfl
  obtain ⟨_, F_l_is_poly⟩ := E53
  have b_l_is_poly := F_l_is_poly.binds (ps := ["_law_found", "_law_jar"]) fun _ _ _ _ _ _ us hl => match us, hl with | [_, _], _ => rfl
  have F_law := fun_mk (st := s_law) l54 c54 k54
  have B_Bl : Bl mg := ⟨PySem.W.mg_none_of X G z_isinstance, PySem.W.mg_none_of X G z_int, PySem.W.mg_none_of X G z_bool, PySem.W.mg_none_of X G z_str, PySem.W.mg_none_of X G z_tuple, PySem.W.mg_none_of X G z_list, PySem.W.mg_none_of X G z_len, PySem.W.mg_none_of X G z_all, PySem.W.mg_none_of X G z_range, PySem.W.mg_none_of X G z_sum, PySem.W.mg_none_of X G z_max, PySem.W.mg_none_of X G z_min⟩
  have B_BlA : BlA mg := ⟨PySem.W.mg_none_of X G z_ValueError, PySem.W.mg_none_of X G z_abs, PySem.W.mg_none_of X G z_any, PySem.W.mg_none_of X G z_iter, PySem.W.mg_none_of X G z_sorted⟩
  refine ⟨PySem.W.fnOf "law" "law" (defArgs s_law) (defBody s_law) (defScope s_law) .none kV54 dc54 pm54 an54 cd54 ct54, fun s v => .of_eq rfl, fun base _ _ => ?_⟩
  have g_Poly := PySem.W.mg_of X G aC
  have G_Poly : PolyT K mg C := ⟨⟨pgP, hdP, poP, saP⟩, nRP, g_Poly, sfP, by unfold PySem.W.plainMro; rw [icP]; simp [moP], caP, cnP, ctP, cmP, ⟨_, icP⟩, tyP, s1P, s2P, s3P, s4P, s5P, s6P, t1P, t2P, t3P, t4P⟩
  have GI_Poly_lshift : IntOp K C "lshift" := ⟨⟨_, aGNlshift, .inl rfl⟩, ⟨_, bGNlshift⟩, ⟨_, cGNlshift⟩, s1P⟩
  have X_AngleError : OwnX K mg "AngleError" A_AngleError := ⟨xAngleErrorxi, PySem.W.mg_of X G xAngleErrorg, xAngleErrork, xAngleErrorb, xAngleErrort, ⟨xAngleErrorga, xAngleErrorgt, xAngleErrorb, xAngleErrord, xAngleErrorcl, xAngleErrorcn, xAngleErrorct, xAngleErrormr⟩, ⟨_, xAngleErrorcs⟩⟩
  have X_InvalidPoly : OwnX K mg "InvalidPoly" A_InvalidPoly := ⟨xInvalidPolyxi, PySem.W.mg_of X G xInvalidPolyg, xInvalidPolyk, xInvalidPolyb, xInvalidPolyt, ⟨xInvalidPolyga, xInvalidPolygt, xInvalidPolyb, xInvalidPolyd, xInvalidPolycl, xInvalidPolycn, xInvalidPolyct, xInvalidPolymr⟩, ⟨_, xInvalidPolycs⟩⟩
  have X_InvalidName : OwnX K mg "InvalidName" A_InvalidName := ⟨xInvalidNamexi, PySem.W.mg_of X G xInvalidNameg, xInvalidNamek, xInvalidNameb, xInvalidNamet, ⟨xInvalidNamega, xInvalidNamegt, xInvalidNameb, xInvalidNamed, xInvalidNamecl, xInvalidNamecn, xInvalidNamect, xInvalidNamemr⟩, ⟨_, xInvalidNamecs⟩⟩
  have X_InvalidOrders : OwnX K mg "InvalidOrders" A_InvalidOrders := ⟨xInvalidOrdersxi, PySem.W.mg_of X G xInvalidOrdersg, xInvalidOrdersk, xInvalidOrdersb, xInvalidOrderst, ⟨xInvalidOrdersga, xInvalidOrdersgt, xInvalidOrdersb, xInvalidOrdersd, xInvalidOrderscl, xInvalidOrderscn, xInvalidOrdersct, xInvalidOrdersmr⟩, ⟨_, xInvalidOrderscs⟩⟩
  have X_NoProgram : OwnX K mg "NoProgram" A_NoProgram := ⟨xNoProgramxi, PySem.W.mg_of X G xNoProgramg, xNoProgramk, xNoProgramb, xNoProgramt, ⟨xNoProgramga, xNoProgramgt, xNoProgramb, xNoProgramd, xNoProgramcl, xNoProgramcn, xNoProgramct, xNoProgrammr⟩, ⟨_, xNoProgramcs⟩⟩
  have X_InvalidOrder : OwnX K mg "InvalidOrder" A_InvalidOrder := ⟨xInvalidOrderxi, PySem.W.mg_of X G xInvalidOrderg, xInvalidOrderk, xInvalidOrderb, xInvalidOrdert, ⟨xInvalidOrderga, xInvalidOrdergt, xInvalidOrderb, xInvalidOrderd, xInvalidOrdercl, xInvalidOrdercn, xInvalidOrderct, xInvalidOrdermr⟩, ⟨_, xInvalidOrdercs⟩⟩
  have X_InvalidNumber : OwnX K mg "InvalidNumber" A_InvalidNumber := ⟨xInvalidNumberxi, PySem.W.mg_of X G xInvalidNumberg, xInvalidNumberk, xInvalidNumberb, xInvalidNumbert, ⟨xInvalidNumberga, xInvalidNumbergt, xInvalidNumberb, xInvalidNumberd, xInvalidNumbercl, xInvalidNumbercn, xInvalidNumberct, xInvalidNumbermr⟩, ⟨_, xInvalidNumbercs⟩⟩
  have X_InvalidProgram : OwnX K mg "InvalidProgram" A_InvalidProgram := ⟨xInvalidProgramxi, PySem.W.mg_of X G xInvalidProgramg, xInvalidProgramk, xInvalidProgramb, xInvalidProgramt, ⟨xInvalidProgramga, xInvalidProgramgt, xInvalidProgramb, xInvalidProgramd, xInvalidProgramcl, xInvalidProgramcn, xInvalidProgramct, xInvalidProgrammr⟩, ⟨_, xInvalidProgramcs⟩⟩
  have g_l_bag_of := PySem.W.mg_of X G a1
  have g_l_pick := PySem.W.mg_of X G a2
  have g_l_drawable := PySem.W.mg_of X G a3
  have g_is_integer := PySem.W.mg_of X G a4
  have g_is_term := PySem.W.mg_of X G a5
  have g_summed := PySem.W.mg_of X G a6
  have g_l_terms_of := PySem.W.mg_of X G a8
  have g_check_poly := PySem.W.mg_of X G a9
  have g_as_poly := PySem.W.mg_of X G a10
  have g_negative := PySem.W.mg_of X G a12
  have g_l_made := PySem.W.mg_of X G a15
  have g_is_name := PySem.W.mg_of X G a16
  have g_check_name := PySem.W.mg_of X G a17
  have g_raw_drawing := PySem.W.mg_of X G a19
  have g_drawing := PySem.W.mg_of X G a20
  have g_l_is_int := PySem.W.mg_of X G a21
  have g_l_is_piece := PySem.W.mg_of X G a22
  have g_l_walked := PySem.W.mg_of X G a23
  have g_l_same_piece := PySem.W.mg_of X G a24
  have g_l_drawn := PySem.W.mg_of X G a25
  have g_l_jar_of := PySem.W.mg_of X G a26
  have g_l_moved := PySem.W.mg_of X G a27
  have g_l_times := PySem.W.mg_of X G a28
  have g_is_order := PySem.W.mg_of X G a29
  have g_check_order := PySem.W.mg_of X G a30
  have g_primes_of := PySem.W.mg_of X G a31
  have g_check_divisor := PySem.W.mg_of X G a32
  have g_division := PySem.W.mg_of X G a34
  have g_raw_ring := PySem.W.mg_of X G a36
  have g_ring := PySem.W.mg_of X G a37
  have g_l_primes := PySem.W.mg_of X G a38
  have g_l_totient := PySem.W.mg_of X G a39
  have g_l_ring_row := PySem.W.mg_of X G a40
  have g_l_jar_row := PySem.W.mg_of X G a41
  have g_l_ring_jar := PySem.W.mg_of X G a42
  have g_check_number := PySem.W.mg_of X G a43
  have g_product := PySem.W.mg_of X G a45
  have g_l_others := PySem.W.mg_of X G a47
  have g_l_odd := PySem.W.mg_of X G a48
  have g_l_builds_codes := PySem.W.mg_of X G a49
  have g_l_asked := PySem.W.mg_of X G a50
  have g_l_is_poly := PySem.W.mg_of X G a53
  have g_law := PySem.W.mg_of X G a54
  have h_l_bag_of : Has l.prog w K mg base "_law_bag_of" 1 ["_law_cell"] spBagOf := ⟨_, _, ok_l_bag_of F_l_bag_of B_Bl, PySem.W.mg_of X G a1, k1, b_l_bag_of⟩
  have h_l_pick : Has l.prog w K mg base "_law_pick" 1 ["_law_bag", "_law_many"] spPick := ⟨_, _, ok_l_pick F_l_pick B_Bl, PySem.W.mg_of X G a2, k2, b_l_pick⟩
  have h_l_drawable : Has l.prog w K mg base "_law_drawable" 2 ["_law_bag"] spDrawable := ⟨_, _, ok_l_drawable F_l_drawable B_Bl.b_range B_Bl.b_len h_l_pick, PySem.W.mg_of X G a3, k3, b_l_drawable⟩
  have h_is_integer : Has l.prog w K mg base "is_integer" 1 ["value"] spIsInt := ⟨_, _, ok_is_integer F_is_integer B_Bl, g_is_integer, F_is_integer.kp, b_is_integer⟩
  have h_is_integerT : Has l.prog w K mg base "is_integer" 1 ["value"] (spIsIntT K) := ⟨_, _, ok_is_integerT F_is_integer B_Bl, g_is_integer, F_is_integer.kp, b_is_integer⟩
  have h_is_term : Has l.prog w K mg base "is_term" 2 ["value"] spIsTerm := ⟨_, _, ok_is_term F_is_term B_Bl h_is_integer, PySem.W.mg_of X G a5, k5, b_is_term⟩
  have h_summed : Has l.prog w K mg base "summed" 1 ["terms"] spSummed := ⟨_, _, ok_summed F_summed B_Bl B_BlA.b_sorted, PySem.W.mg_of X G a6, k6, b_summed⟩
  have hc_Poly : HasC l.prog w K mg base "Poly" C 3 ["self", "terms"] (spInit C) := ⟨_, _, ok_Poly_init F_Poly___init__ B_Bl G_Poly h_is_term h_summed, ⟨mk_Poly, a7, i7, kc_Poly⟩, g_Poly, b_Poly___init__⟩
  have h_l_terms_of : Has l.prog w K mg base "_law_terms_of" 1 ["_law_jar"] spTerms := ⟨_, _, ok_l_terms_of F_l_terms_of B_BlA.b_sorted, PySem.W.mg_of X G a8, k8, b_l_terms_of⟩
  have h_check_poly : Has l.prog w K mg base "check_poly" 1 ["value"] (fun vs H Q _ => ∃ a ts, vs = [.ref a] ∧ PolyAt C H a ts ∧ Q .non H) := ⟨_, _, ok_check_poly F_check_poly B_Bl G_Poly, g_check_poly, F_check_poly.kp, b_check_poly⟩
  have hx_check_poly : HasX l.prog w K mg base "check_poly" 1 ["value"] (spChkPolyX K C A_InvalidPoly) := ⟨_, _, ok_check_polyX F_check_poly B_Bl G_Poly X_InvalidPoly, g_check_poly, F_check_poly.kp, b_check_poly⟩
  have h_as_poly : Has l.prog w K mg base "as_poly" 5 ["value"] (spAsPoly C) := ⟨_, _, ok_as_poly F_as_poly B_Bl G_Poly h_is_integerT hc_Poly h_check_poly, PySem.W.mg_of X G a10, k10, b_as_poly⟩
  have hm_Poly___add__ : HasM l.prog w K mg base C "__add__" 6 ["self", "other"] (spPoly2 C fun c d k => c k + d k) := ⟨_, _, ok_Poly_add F_Poly___add__ B_Bl G_Poly hc_Poly h_as_poly, ⟨a11, i11, k11⟩, b_Poly___add__⟩
  have h_negative : Has l.prog w K mg base "negative" 5 ["poly"] (spPoly1 C fun ts k => -cof ts k) := ⟨_, _, ok_negative F_negative B_Bl G_Poly hc_Poly, PySem.W.mg_of X G a12, k12, b_negative⟩
  have hm_Poly___neg__ : HasM l.prog w K mg base C "__neg__" 6 ["self"] (spPoly1 C fun ts k => -cof ts k) := ⟨_, _, ok_Poly_neg F_Poly___neg__ h_negative, ⟨a13, i13, k13⟩, b_Poly___neg__⟩
  have hm_Poly_mirrored : HasM l.prog w K mg base C "mirrored" 5 ["self"] (spPoly1 C fun ts k => cof ts (-k)) := ⟨_, _, ok_Poly_mirrored F_Poly_mirrored B_Bl G_Poly hc_Poly, ⟨a14, i14, k14⟩, b_Poly_mirrored⟩
  have h_l_made : Has l.prog w K mg base "_law_made" 7 ["_law_bag", "_law_jar"] (spMade C) := ⟨_, _, ok_l_made F_l_made B_Bl G_Poly hc_Poly h_l_pick h_l_terms_of hm_Poly___add__ hm_Poly___neg__ hm_Poly_mirrored, PySem.W.mg_of X G a15, k15, b_l_made⟩
  have h_is_name : Has l.prog w K mg base "is_name" 1 ["value"] spIsName := ⟨_, _, ok_is_name F_is_name B_Bl, g_is_name, F_is_name.kp, b_is_name⟩
  have h_is_nameT : Has l.prog w K mg base "is_name" 1 ["value"] (spIsNameT K) := ⟨_, _, ok_is_nameT F_is_name B_Bl, g_is_name, F_is_name.kp, b_is_name⟩
  have hx_check_name : HasX l.prog w K mg base "check_name" 2 ["value"] (spChkNameX K A_InvalidName) := ⟨_, _, ok_check_nameX F_check_name X_InvalidName h_is_nameT, g_check_name, F_check_name.kp, b_check_name⟩
  have hs_Poly___iter__ : HasS l.prog w K mg base C "__iter__" 1 ["self"] (spIter K C "rows") := ⟨_, _, ok_Poly_iter F_Poly___iter__ B_BlA.b_iter G_Poly, ⟨a18, i18, k18⟩, b_Poly___iter__⟩
  have h_raw_drawing : Has l.prog w K mg base "raw_drawing" 2 ["poly", "name"] (spRawDraw C) := ⟨_, _, ok_raw_drawing F_raw_drawing B_Bl B_BlA.b_abs G_Poly hs_Poly___iter__, PySem.W.mg_of X G a19, k19, b_raw_drawing⟩
  have O_drawing := ok_drawing F_drawing hx_check_poly hx_check_name h_raw_drawing
  have hxk_drawing : HasXK l.prog w K mg base "drawing" 3 ["poly", "name"] ["name", "poly"] true (spDrawingX K C A_InvalidPoly A_InvalidName) := ⟨_, _, O_drawing, g_drawing, F_drawing.kp, kw0 (fun ws hl => match ws, hl with | [_, _], _ => rfl)⟩
  have C_drawing := (fnOk_calm O_drawing).imp (sp' := spDrawing C) (fun vs H Q E h => by obtain ⟨a, ts, nm, rfl, ha, hn, hl, k⟩ := h; exact ⟨_, _, rfl, .inl ⟨a, ts, nm, rfl, rfl, ha, hn, hl, k⟩⟩)
  have h_drawing : Has l.prog w K mg base "drawing" 3 ["poly", "name"] (spDrawing C) := ⟨_, _, C_drawing, g_drawing, F_drawing.kp, b_drawing⟩
  have hkr_drawing : HasKR l.prog w K mg base "drawing" 3 ["poly", "name"] ["name", "poly"] (spDrawing C) := ⟨_, _, C_drawing, g_drawing, F_drawing.kp, kbindsR (fun ws hl => match ws, hl with | [_, _], _ => rfl) (by simp)⟩
  have h_l_is_int : Has l.prog w K mg base "_law_is_int" 1 ["_law_thing"] spIsInt := ⟨_, _, ok_l_is_int F_l_is_int B_Bl, PySem.W.mg_of X G a21, k21, b_l_is_int⟩
  have h_l_is_piece : Has l.prog w K mg base "_law_is_piece" 14 ["_law_thing"] (spIsPc 13) := has_isPiece F_l_is_piece B_Bl h_l_is_int g_l_is_piece b_l_is_piece 13
  have h_l_walkedT : Has l.prog w K mg base "_law_walked" 2 ["_law_row"] spWalkedT := ⟨_, _, ok_l_walkedT F_l_walked B_Bl B_BlA.b_sorted h_l_terms_of, g_l_walked, F_l_walked.kp, b_l_walked⟩
  have h_l_same_piece : Has l.prog w K mg base "_law_same_piece" 28 ["_law_found", "_law_due"] (spSame 28) := has_same F_l_same_piece B_Bl g_l_same_piece b_l_same_piece 28
  have h_l_drawn : Has l.prog w K mg base "_law_drawn" 29 ["_law_poly", "_law_jar", "_law_who"] (spDrawn C) := ⟨_, _, ok_l_drawn F_l_drawn B_BlA.b_any B_Bl.b_all h_drawing hkr_drawing h_l_is_piece h_l_terms_of h_l_walkedT h_l_same_piece, PySem.W.mg_of X G a25, k25, b_l_drawn⟩
  have h_l_jar_of : Has l.prog w K mg base "_law_jar_of" 1 ["_law_rows"] spJarOf := ⟨_, _, ok_l_jar_of F_l_jar_of, PySem.W.mg_of X G a26, k26, b_l_jar_of⟩
  have h_l_moved : Has l.prog w K mg base "_law_moved" 2 ["_law_jar", "_law_shift"] spMoved := ⟨_, _, ok_l_moved F_l_moved h_l_jar_of, PySem.W.mg_of X G a27, k27, b_l_moved⟩
  have h_l_times : Has l.prog w K mg base "_law_times" 1 ["_law_one", "_law_two"] spTimes := ⟨_, _, ok_l_times F_l_times, PySem.W.mg_of X G a28, k28, b_l_times⟩
  have h_is_order : Has l.prog w K mg base "is_order" 2 ["value"] spIsOrder := ⟨_, _, ok_is_order F_is_order h_is_integer, PySem.W.mg_of X G a29, k29, b_is_order⟩
  have h_check_order : Has l.prog w K mg base "check_order" 3 ["value"] spCheckOrder := ⟨_, _, ok_check_order F_check_order h_is_order, PySem.W.mg_of X G a30, k30, b_check_order⟩
  have h_primes_of : Has l.prog w K mg base "primes_of" 1 ["order"] spPrimes := ⟨_, _, ok_primes_of F_primes_of, PySem.W.mg_of X G a31, k31, b_primes_of⟩
  have h_check_divisor : Has l.prog w K mg base "check_divisor" 2 ["value"] (spCheckDiv C) := ⟨_, _, ok_check_divisor F_check_divisor B_Bl B_BlA.b_abs G_Poly h_check_poly, PySem.W.mg_of X G a32, k32, b_check_divisor⟩
  have hp_Poly_span : HasP l.prog w K mg base C "span" 1 ["self"] (spGetSpan C) := ⟨_, _, _, ok_Poly_span F_Poly_span B_Bl G_Poly, ⟨a33, gp33, tp33, _, i33⟩, b_Poly_span⟩
  have h_division : Has l.prog w K mg base "division" 5 ["poly", "divisor"] (spDivision C) := ⟨_, _, ok_division F_division B_Bl B_BlA.b_sorted G_Poly hp_Poly_span hc_Poly, PySem.W.mg_of X G a34, k34, b_division⟩
  have hm_Poly___floordiv__ : HasM l.prog w K mg base C "__floordiv__" 6 ["self", "divisor"] (spFloor C) := ⟨_, _, ok_Poly_floordiv F_Poly___floordiv__ h_check_divisor h_division, ⟨a35, i35, k35⟩, b_Poly___floordiv__⟩
  have h_raw_ring : Has l.prog w K mg base "raw_ring" 7 ["order"] (spRing C) := ⟨_, _, ok_raw_ring F_raw_ring G_Poly h_primes_of hc_Poly hs_Poly___iter__ hm_Poly___floordiv__, PySem.W.mg_of X G a36, k36, b_raw_ring⟩
  have h_ring : Has l.prog w K mg base "ring" 8 ["order"] (spRing C) := ⟨_, _, ok_ring F_ring h_check_order h_raw_ring, PySem.W.mg_of X G a37, k37, b_ring⟩
  have h_l_primes : Has l.prog w K mg base "_law_primes" 1 ["_law_cycle"] spPrimes := ⟨_, _, ok_l_primes F_l_primes B_Bl, PySem.W.mg_of X G a38, k38, b_l_primes⟩
  have h_l_totient : Has l.prog w K mg base "_law_totient" 2 ["_law_cycle"] spPhi := ⟨_, _, ok_l_totient F_l_totient h_l_primes, PySem.W.mg_of X G a39, k39, b_l_totient⟩
  have h_l_ring_row : Has l.prog w K mg base "_law_ring_row" 3 ["_law_cycle"] spRingRow := ⟨_, _, ok_l_ring_row F_l_ring_row B_Bl h_l_totient h_l_primes, PySem.W.mg_of X G a40, k40, b_l_ring_row⟩
  have h_l_jar_row : Has l.prog w K mg base "_law_jar_row" 2 ["_law_row"] spJarRow := ⟨_, _, ok_l_jar_row F_l_jar_row B_Bl h_l_jar_of, PySem.W.mg_of X G a41, k41, b_l_jar_row⟩
  have h_l_ring_jar : Has l.prog w K mg base "_law_ring_jar" 4 ["_law_cycle"] spRingJar := ⟨_, _, ok_l_ring_jar F_l_ring_jar h_l_ring_row h_l_jar_row, PySem.W.mg_of X G a42, k42, b_l_ring_jar⟩
  have h_check_number : Has l.prog w K mg base "check_number" 2 ["value"] spPNum := ⟨_, _, ok_check_number F_check_number B_Bl h_is_integer, PySem.W.mg_of X G a43, k43, b_check_number⟩
  have hm_Poly___lshift__ : HasM l.prog w K mg base C "__lshift__" 5 ["self", "number"] (spShift C) := ⟨_, _, ok_Poly_lshift F_Poly___lshift__ B_Bl G_Poly hc_Poly h_check_number, ⟨a44, i44, k44⟩, b_Poly___lshift__⟩
  have h_product : Has l.prog w K mg base "product" 5 ["one", "two"] (spProduct C) := ⟨_, _, ok_product F_product B_Bl G_Poly hc_Poly, PySem.W.mg_of X G a45, k45, b_product⟩
  have hm_Poly___mul__ : HasM l.prog w K mg base C "__mul__" 6 ["self", "other"] (spMul C mulF) := ⟨_, _, ok_Poly_mul F_Poly___mul__ h_as_poly h_product, ⟨a46, i46, k46⟩, b_Poly___mul__⟩
  have h_l_others : Has l.prog w K mg base "_law_others" 10 ["_law_bag", "_law_poly", "_law_jar"] (spOthers C) := ⟨_, _, ok_l_others F_l_others G_Poly GI_Poly_lshift B_Bl.b_range h_l_pick h_l_moved h_l_jar_of h_l_made h_l_times h_ring h_l_ring_jar hm_Poly___lshift__ hm_Poly___mul__, PySem.W.mg_of X G a47, k47, b_l_others⟩
  have h_l_odd : Has l.prog w K mg base "_law_odd" 5 ["_law_bag"] (spOddN K C) := ⟨_, _, ok_l_odd F_l_odd B_Bl G_Poly hc_Poly X_InvalidPoly uIP uIPn h_l_pick, PySem.W.mg_of X G a48, k48, b_l_odd⟩
  have h_l_builds_codes : Has l.prog w K mg base "_law_builds_codes" 1 ["_law_thing"] (spBCodes K [A_InvalidPoly, A_InvalidName, A_InvalidOrders, A_NoProgram, A_InvalidOrder, A_InvalidNumber, A_InvalidProgram]) := ⟨_, _, ok_l_builds_codes F_l_builds_codes B_Bl X_InvalidPoly X_InvalidName X_InvalidOrders X_NoProgram X_InvalidOrder X_InvalidNumber X_InvalidProgram, PySem.W.mg_of X G a49, k49, b_l_builds_codes⟩
  have h_l_asked : Has l.prog w K mg base "_law_asked" 5 ["_law_poly", "_law_who"] (spAsked K C) := ⟨_, _, ok_l_asked F_l_asked B_Bl B_BlA.b_ValueError X_AngleError X_InvalidPoly X_InvalidName (told7 uInvalidPoly_AngleError uInvalidPoly_TValueError kit_own (X_InvalidName.kit uInvalidPoly_InvalidName uInvalidPoly_InvalidNamen) (X_InvalidOrders.kit uInvalidPoly_InvalidOrders uInvalidPoly_InvalidOrdersn) (X_NoProgram.kit uInvalidPoly_NoProgram uInvalidPoly_NoProgramn) (X_InvalidOrder.kit uInvalidPoly_InvalidOrder uInvalidPoly_InvalidOrdern) (X_InvalidNumber.kit uInvalidPoly_InvalidNumber uInvalidPoly_InvalidNumbern) (X_InvalidProgram.kit uInvalidPoly_InvalidProgram uInvalidPoly_InvalidProgramn)) (told7 uInvalidName_AngleError uInvalidName_TValueError (X_InvalidPoly.kit uInvalidName_InvalidPoly uInvalidName_InvalidPolyn) kit_own (X_InvalidOrders.kit uInvalidName_InvalidOrders uInvalidName_InvalidOrdersn) (X_NoProgram.kit uInvalidName_NoProgram uInvalidName_NoProgramn) (X_InvalidOrder.kit uInvalidName_InvalidOrder uInvalidName_InvalidOrdern) (X_InvalidNumber.kit uInvalidName_InvalidNumber uInvalidName_InvalidNumbern) (X_InvalidProgram.kit uInvalidName_InvalidProgram uInvalidName_InvalidProgramn)) hxk_drawing h_l_builds_codes, PySem.W.mg_of X G a50, k50, b_l_asked⟩
  have hp_Poly_terms : HasP l.prog w K mg base C "terms" 1 ["self"] (spGetTerms C) := ⟨_, _, _, ok_Poly_terms F_Poly_terms B_Bl G_Poly, ⟨a51, gp51, tp51, _, i51⟩, b_Poly_terms⟩
  have hm_Poly___len__ : HasM l.prog w K mg base C "__len__" 1 ["self"] (spPLen C) := ⟨_, _, ok_Poly_len F_Poly___len__ B_Bl G_Poly, ⟨a52, i52, k52⟩, b_Poly___len__⟩
  have h_l_is_poly : Has l.prog w K mg base "_law_is_poly" 4 ["_law_found", "_law_jar"] (spIsPoly C) := ⟨_, _, ok_l_is_poly F_l_is_poly B_Bl G_Poly h_l_is_int h_l_terms_of hp_Poly_terms hp_Poly_span hm_Poly___len__ hs_Poly___iter__, PySem.W.mg_of X G a53, k53, b_l_is_poly⟩
  exact ok_law F_law G_Poly GI_Poly_lshift X_InvalidName uInvalidName_Tstr h_l_bag_of h_l_pick h_l_drawable h_l_made h_l_drawn h_l_others h_drawing h_l_same_piece h_l_odd h_l_asked h_l_is_poly hm_Poly___lshift__
theorem hd_facts {l : PySem.W.OpenLaw} {w : World} {K : PySem.W.Frag} {h : Heap} {mg : Str → Option Value} {fa : Addr} (X : K.In h) (G : h.Ns mainGlobals mg) (hfa : mg "law" = some (.ref fa)) (c : hdObs K = hdVal w)
    : ∃ fd : FuncData, (∀ (s : Shared) (v : Value), BindsTo s fd ⟨[v], []⟩ [("_law_script", v)]) ∧ ∀ base : Heap, K.In base → base.Ns mainGlobals mg → FnOk l.prog w K mg base CX0 32 fa fd ["_law_script"] (spLaw K) := by
  have c1 := congrArg (fun z : HdA => z.1) c
  have c2 := congrArg (fun z : HdA => z.2.1) c
  have pt : hdt K = hdw w := congrArg (fun z : HdA => z.2.2) c
  have q0 : (hdc0 K).all id = true := list_at c1 (i := 0) rfl rfl
  have q1 : (hdc1 K).all id = true := list_at c1 (i := 1) rfl rfl
  have q2 : (hdc2 K).all id = true := list_at c1 (i := 2) rfl rfl
  have q3 : (hdc3 K).all id = true := list_at c1 (i := 3) rfl rfl
  have q4 : (hdc4 K).all id = true := list_at c1 (i := 4) rfl rfl
  have q5 : (hdc5 K).all id = true := list_at c1 (i := 5) rfl rfl
  have q6 : (hdc6 K).all id = true := list_at c1 (i := 6) rfl rfl
  have q7 : (hdc7 K).all id = true := list_at c1 (i := 7) rfl rfl
  have q8 : (hdc8 K).all id = true := list_at c1 (i := 8) rfl rfl
  have q9 : (hdc9 K).all id = true := list_at c1 (i := 9) rfl rfl
  have q10 : (hdc10 K).all id = true := list_at c1 (i := 10) rfl rfl
  have q11 : (hdc11 K).all id = true := list_at c1 (i := 11) rfl rfl
  have p0 : hdf0 K = hdv0 := list_at c2 (i := 0) rfl rfl
  have p1 : hdf1 K = hdv1 := list_at c2 (i := 1) rfl rfl
  clear c c1 c2
  have aC : PySem.W.nsIn K mainGlobals "Poly" = some (some (.ref (He.ga K "Poly"))) := He.eqO_ok (all_at q0 (i := 0) rfl)
  have pgP : PySem.W.plainGet K (He.ga K "Poly") Str.empty = true := (all_at q0 (i := 1) rfl)
  have hdP : PySem.W.hasDictIn K (He.ga K "Poly") = true := (all_at q0 (i := 2) rfl)
  have poP : PySem.W.plainOver K (He.ga K "Poly") = true := (all_at q0 (i := 3) rfl)
  have saP : PySem.W.findIn K (.ref (He.ga K "Poly")) "__setattr__" = some (some (.builtin "object.__setattr__")) := He.eqO_ok (all_at q0 (i := 4) rfl)
  have mk_Poly : PySem.W.makesIn K (He.ga K "Poly") = true := (all_at q0 (i := 5) rfl)
  have kc_Poly : PySem.W.keepIn K (.ref (He.ga K "Poly")) = true := (all_at q0 (i := 6) rfl)
  have nRP : PySem.W.findIn K (.ref (He.ga K "Poly")) "rows" = some none := He.eqO_ok (all_at q0 (i := 7) rfl)
  have sfP : PySem.W.selfFirst K (He.ga K "Poly") = true := (all_at q0 (i := 8) rfl)
  obtain ⟨cdP, icP, moP⟩ := clsC_ok (all_at q0 (i := 9) rfl)
  have caP : PySem.W.findIn K (.ref (He.ga K "Poly")) "__class__" = some (some (.builtin "object.__class__")) := He.eqO_ok (all_at q0 (i := 10) rfl)
  have cnP : PySem.W.specialIn K (.builtin "object.__class__") "__get__" = some (some (.builtin "getset_descriptor.__get__")) := He.eqO_ok (all_at q0 (i := 11) rfl)
  have ctP : PySem.W.takesIn K (.builtin "object.__class__") = some true := of_decide_eq_true (all_at q0 (i := 12) rfl)
  have cmP : PySem.W.mroIn K (He.ga K "Poly") (.type "object") = some true := of_decide_eq_true (all_at q0 (i := 13) rfl)
  have tyP : PySem.W.typeIn K (.ref (He.ga K "Poly")) = some (.type "type") := of_decide_eq_true (all_at q0 (i := 14) rfl)
  have s1P : PySem.W.subIn K (.type "int") (.ref (He.ga K "Poly")) = some false := of_decide_eq_true (all_at q0 (i := 15) rfl)
  have s2P : PySem.W.subIn K (.type "bool") (.ref (He.ga K "Poly")) = some false := of_decide_eq_true (all_at q0 (i := 16) rfl)
  have s3P : PySem.W.subIn K (.type "str") (.ref (He.ga K "Poly")) = some false := of_decide_eq_true (all_at q0 (i := 17) rfl)
  have s4P : PySem.W.subIn K (.type "list") (.ref (He.ga K "Poly")) = some false := of_decide_eq_true (all_at q0 (i := 18) rfl)
  have s5P : PySem.W.subIn K (.type "tuple") (.ref (He.ga K "Poly")) = some false := of_decide_eq_true (all_at q0 (i := 19) rfl)
  have s6P : PySem.W.subIn K (.type "NoneType") (.ref (He.ga K "Poly")) = some false := of_decide_eq_true (all_at q0 (i := 20) rfl)
  have t1P : PySem.W.subIn K (.ref (He.ga K "Poly")) (.type "int") = some false := of_decide_eq_true (all_at q0 (i := 21) rfl)
  have t2P : PySem.W.subIn K (.ref (He.ga K "Poly")) (.type "bool") = some false := of_decide_eq_true (all_at q0 (i := 22) rfl)
  have t3P : PySem.W.subIn K (.ref (He.ga K "Poly")) (.type "list") = some false := of_decide_eq_true (all_at q0 (i := 23) rfl)
  have t4P : PySem.W.subIn K (.ref (He.ga K "Poly")) (.type "tuple") = some false := of_decide_eq_true (all_at q0 (i := 24) rfl)
  have xAngleErrorg : PySem.W.nsIn K mainGlobals "AngleError" = some (some (.ref (He.ga K "AngleError"))) := He.eqO_ok (all_at q0 (i := 25) rfl)
  have xAngleErrorxi : PySem.W.excIn K (He.ga K "AngleError") [.type "ValueError", .type "Exception", .type "BaseException", .type "object"] "ValueError.__new__" = true := (all_at q0 (i := 26) rfl)
  have xAngleErrork : PySem.W.keepIn K (.ref (He.ga K "AngleError")) = true := (all_at q0 (i := 27) rfl)
  have xAngleErrorb : PySem.W.subIn K (.ref (He.ga K "AngleError")) (.type "BaseException") = some true := of_decide_eq_true (all_at q0 (i := 28) rfl)
  have xAngleErrort : PySem.W.typeIn K (.ref (He.ga K "AngleError")) = some (.type "type") := of_decide_eq_true (all_at q0 (i := 29) rfl)
  have xAngleErrorga : PySem.W.findIn K (.ref (He.ga K "AngleError")) "__getattribute__" = some (some (.builtin "BaseException.__getattribute__")) := He.eqO_ok (all_at q1 (i := 0) rfl)
  have xAngleErrorgt : PySem.W.findIn K (.ref (He.ga K "AngleError")) "__getattr__" = some none := He.eqO_ok (all_at q1 (i := 1) rfl)
  have xAngleErrord : PySem.W.hasDictIn K (He.ga K "AngleError") = true := (all_at q1 (i := 2) rfl)
  have xAngleErrorcl : PySem.W.findIn K (.ref (He.ga K "AngleError")) "__class__" = some (some (.builtin "object.__class__")) := He.eqO_ok (all_at q1 (i := 3) rfl)
  have xAngleErrorcn : PySem.W.specialIn K (.builtin "object.__class__") "__get__" = some (some (.builtin "getset_descriptor.__get__")) := He.eqO_ok (all_at q1 (i := 4) rfl)
  have xAngleErrorct : PySem.W.takesIn K (.builtin "object.__class__") = some true := of_decide_eq_true (all_at q1 (i := 5) rfl)
  have xAngleErrormr : PySem.W.mroIn K (He.ga K "AngleError") (.type "object") = some true := of_decide_eq_true (all_at q1 (i := 6) rfl)
  obtain ⟨cd_AngleError, xAngleErrorcs⟩ := some_at (all_at q1 (i := 7) rfl)
  have xInvalidPolyg : PySem.W.nsIn K mainGlobals "InvalidPoly" = some (some (.ref (He.ga K "InvalidPoly"))) := He.eqO_ok (all_at q1 (i := 8) rfl)
  have xInvalidPolyxi : PySem.W.excIn K (He.ga K "InvalidPoly") [.type "ValueError", .type "Exception", .type "BaseException", .type "object"] "ValueError.__new__" = true := (all_at q1 (i := 9) rfl)
  have xInvalidPolyk : PySem.W.keepIn K (.ref (He.ga K "InvalidPoly")) = true := (all_at q1 (i := 10) rfl)
  have xInvalidPolyb : PySem.W.subIn K (.ref (He.ga K "InvalidPoly")) (.type "BaseException") = some true := of_decide_eq_true (all_at q1 (i := 11) rfl)
  have xInvalidPolyt : PySem.W.typeIn K (.ref (He.ga K "InvalidPoly")) = some (.type "type") := of_decide_eq_true (all_at q1 (i := 12) rfl)
  have xInvalidPolyga : PySem.W.findIn K (.ref (He.ga K "InvalidPoly")) "__getattribute__" = some (some (.builtin "BaseException.__getattribute__")) := He.eqO_ok (all_at q1 (i := 13) rfl)
  have xInvalidPolygt : PySem.W.findIn K (.ref (He.ga K "InvalidPoly")) "__getattr__" = some none := He.eqO_ok (all_at q1 (i := 14) rfl)
  have xInvalidPolyd : PySem.W.hasDictIn K (He.ga K "InvalidPoly") = true := (all_at q1 (i := 15) rfl)
  have xInvalidPolycl : PySem.W.findIn K (.ref (He.ga K "InvalidPoly")) "__class__" = some (some (.builtin "object.__class__")) := He.eqO_ok (all_at q1 (i := 16) rfl)
  have xInvalidPolycn : PySem.W.specialIn K (.builtin "object.__class__") "__get__" = some (some (.builtin "getset_descriptor.__get__")) := He.eqO_ok (all_at q1 (i := 17) rfl)
  have xInvalidPolyct : PySem.W.takesIn K (.builtin "object.__class__") = some true := of_decide_eq_true (all_at q1 (i := 18) rfl)
  have xInvalidPolymr : PySem.W.mroIn K (He.ga K "InvalidPoly") (.type "object") = some true := of_decide_eq_true (all_at q1 (i := 19) rfl)
  obtain ⟨cd_InvalidPoly, xInvalidPolycs⟩ := some_at (all_at q1 (i := 20) rfl)
  have xInvalidNameg : PySem.W.nsIn K mainGlobals "InvalidName" = some (some (.ref (He.ga K "InvalidName"))) := He.eqO_ok (all_at q1 (i := 21) rfl)
  have xInvalidNamexi : PySem.W.excIn K (He.ga K "InvalidName") [.type "ValueError", .type "Exception", .type "BaseException", .type "object"] "ValueError.__new__" = true := (all_at q1 (i := 22) rfl)
  have xInvalidNamek : PySem.W.keepIn K (.ref (He.ga K "InvalidName")) = true := (all_at q1 (i := 23) rfl)
  have xInvalidNameb : PySem.W.subIn K (.ref (He.ga K "InvalidName")) (.type "BaseException") = some true := of_decide_eq_true (all_at q1 (i := 24) rfl)
  have xInvalidNamet : PySem.W.typeIn K (.ref (He.ga K "InvalidName")) = some (.type "type") := of_decide_eq_true (all_at q1 (i := 25) rfl)
  have xInvalidNamega : PySem.W.findIn K (.ref (He.ga K "InvalidName")) "__getattribute__" = some (some (.builtin "BaseException.__getattribute__")) := He.eqO_ok (all_at q1 (i := 26) rfl)
  have xInvalidNamegt : PySem.W.findIn K (.ref (He.ga K "InvalidName")) "__getattr__" = some none := He.eqO_ok (all_at q1 (i := 27) rfl)
  have xInvalidNamed : PySem.W.hasDictIn K (He.ga K "InvalidName") = true := (all_at q1 (i := 28) rfl)
  have xInvalidNamecl : PySem.W.findIn K (.ref (He.ga K "InvalidName")) "__class__" = some (some (.builtin "object.__class__")) := He.eqO_ok (all_at q1 (i := 29) rfl)
  have xInvalidNamecn : PySem.W.specialIn K (.builtin "object.__class__") "__get__" = some (some (.builtin "getset_descriptor.__get__")) := He.eqO_ok (all_at q2 (i := 0) rfl)
  have xInvalidNamect : PySem.W.takesIn K (.builtin "object.__class__") = some true := of_decide_eq_true (all_at q2 (i := 1) rfl)
  have xInvalidNamemr : PySem.W.mroIn K (He.ga K "InvalidName") (.type "object") = some true := of_decide_eq_true (all_at q2 (i := 2) rfl)
  obtain ⟨cd_InvalidName, xInvalidNamecs⟩ := some_at (all_at q2 (i := 3) rfl)
  have xInvalidOrdersg : PySem.W.nsIn K mainGlobals "InvalidOrders" = some (some (.ref (He.ga K "InvalidOrders"))) := He.eqO_ok (all_at q2 (i := 4) rfl)
  have xInvalidOrdersxi : PySem.W.excIn K (He.ga K "InvalidOrders") [.type "ValueError", .type "Exception", .type "BaseException", .type "object"] "ValueError.__new__" = true := (all_at q2 (i := 5) rfl)
  have xInvalidOrdersk : PySem.W.keepIn K (.ref (He.ga K "InvalidOrders")) = true := (all_at q2 (i := 6) rfl)
  have xInvalidOrdersb : PySem.W.subIn K (.ref (He.ga K "InvalidOrders")) (.type "BaseException") = some true := of_decide_eq_true (all_at q2 (i := 7) rfl)
  have xInvalidOrderst : PySem.W.typeIn K (.ref (He.ga K "InvalidOrders")) = some (.type "type") := of_decide_eq_true (all_at q2 (i := 8) rfl)
  have xInvalidOrdersga : PySem.W.findIn K (.ref (He.ga K "InvalidOrders")) "__getattribute__" = some (some (.builtin "BaseException.__getattribute__")) := He.eqO_ok (all_at q2 (i := 9) rfl)
  have xInvalidOrdersgt : PySem.W.findIn K (.ref (He.ga K "InvalidOrders")) "__getattr__" = some none := He.eqO_ok (all_at q2 (i := 10) rfl)
  have xInvalidOrdersd : PySem.W.hasDictIn K (He.ga K "InvalidOrders") = true := (all_at q2 (i := 11) rfl)
  have xInvalidOrderscl : PySem.W.findIn K (.ref (He.ga K "InvalidOrders")) "__class__" = some (some (.builtin "object.__class__")) := He.eqO_ok (all_at q2 (i := 12) rfl)
  have xInvalidOrderscn : PySem.W.specialIn K (.builtin "object.__class__") "__get__" = some (some (.builtin "getset_descriptor.__get__")) := He.eqO_ok (all_at q2 (i := 13) rfl)
  have xInvalidOrdersct : PySem.W.takesIn K (.builtin "object.__class__") = some true := of_decide_eq_true (all_at q2 (i := 14) rfl)
  have xInvalidOrdersmr : PySem.W.mroIn K (He.ga K "InvalidOrders") (.type "object") = some true := of_decide_eq_true (all_at q2 (i := 15) rfl)
  obtain ⟨cd_InvalidOrders, xInvalidOrderscs⟩ := some_at (all_at q2 (i := 16) rfl)
  have xNoProgramg : PySem.W.nsIn K mainGlobals "NoProgram" = some (some (.ref (He.ga K "NoProgram"))) := He.eqO_ok (all_at q2 (i := 17) rfl)
  have xNoProgramxi : PySem.W.excIn K (He.ga K "NoProgram") [.type "ValueError", .type "Exception", .type "BaseException", .type "object"] "ValueError.__new__" = true := (all_at q2 (i := 18) rfl)
  have xNoProgramk : PySem.W.keepIn K (.ref (He.ga K "NoProgram")) = true := (all_at q2 (i := 19) rfl)
  have xNoProgramb : PySem.W.subIn K (.ref (He.ga K "NoProgram")) (.type "BaseException") = some true := of_decide_eq_true (all_at q2 (i := 20) rfl)
  have xNoProgramt : PySem.W.typeIn K (.ref (He.ga K "NoProgram")) = some (.type "type") := of_decide_eq_true (all_at q2 (i := 21) rfl)
  have xNoProgramga : PySem.W.findIn K (.ref (He.ga K "NoProgram")) "__getattribute__" = some (some (.builtin "BaseException.__getattribute__")) := He.eqO_ok (all_at q2 (i := 22) rfl)
  have xNoProgramgt : PySem.W.findIn K (.ref (He.ga K "NoProgram")) "__getattr__" = some none := He.eqO_ok (all_at q2 (i := 23) rfl)
  have xNoProgramd : PySem.W.hasDictIn K (He.ga K "NoProgram") = true := (all_at q2 (i := 24) rfl)
  have xNoProgramcl : PySem.W.findIn K (.ref (He.ga K "NoProgram")) "__class__" = some (some (.builtin "object.__class__")) := He.eqO_ok (all_at q2 (i := 25) rfl)
  have xNoProgramcn : PySem.W.specialIn K (.builtin "object.__class__") "__get__" = some (some (.builtin "getset_descriptor.__get__")) := He.eqO_ok (all_at q2 (i := 26) rfl)
  have xNoProgramct : PySem.W.takesIn K (.builtin "object.__class__") = some true := of_decide_eq_true (all_at q2 (i := 27) rfl)
  have xNoProgrammr : PySem.W.mroIn K (He.ga K "NoProgram") (.type "object") = some true := of_decide_eq_true (all_at q2 (i := 28) rfl)
  obtain ⟨cd_NoProgram, xNoProgramcs⟩ := some_at (all_at q2 (i := 29) rfl)
  have xInvalidOrderg : PySem.W.nsIn K mainGlobals "InvalidOrder" = some (some (.ref (He.ga K "InvalidOrder"))) := He.eqO_ok (all_at q3 (i := 0) rfl)
  have xInvalidOrderxi : PySem.W.excIn K (He.ga K "InvalidOrder") [.type "ValueError", .type "Exception", .type "BaseException", .type "object"] "ValueError.__new__" = true := (all_at q3 (i := 1) rfl)
  have xInvalidOrderk : PySem.W.keepIn K (.ref (He.ga K "InvalidOrder")) = true := (all_at q3 (i := 2) rfl)
  have xInvalidOrderb : PySem.W.subIn K (.ref (He.ga K "InvalidOrder")) (.type "BaseException") = some true := of_decide_eq_true (all_at q3 (i := 3) rfl)
  have xInvalidOrdert : PySem.W.typeIn K (.ref (He.ga K "InvalidOrder")) = some (.type "type") := of_decide_eq_true (all_at q3 (i := 4) rfl)
  have xInvalidOrderga : PySem.W.findIn K (.ref (He.ga K "InvalidOrder")) "__getattribute__" = some (some (.builtin "BaseException.__getattribute__")) := He.eqO_ok (all_at q3 (i := 5) rfl)
  have xInvalidOrdergt : PySem.W.findIn K (.ref (He.ga K "InvalidOrder")) "__getattr__" = some none := He.eqO_ok (all_at q3 (i := 6) rfl)
  have xInvalidOrderd : PySem.W.hasDictIn K (He.ga K "InvalidOrder") = true := (all_at q3 (i := 7) rfl)
  have xInvalidOrdercl : PySem.W.findIn K (.ref (He.ga K "InvalidOrder")) "__class__" = some (some (.builtin "object.__class__")) := He.eqO_ok (all_at q3 (i := 8) rfl)
  have xInvalidOrdercn : PySem.W.specialIn K (.builtin "object.__class__") "__get__" = some (some (.builtin "getset_descriptor.__get__")) := He.eqO_ok (all_at q3 (i := 9) rfl)
  have xInvalidOrderct : PySem.W.takesIn K (.builtin "object.__class__") = some true := of_decide_eq_true (all_at q3 (i := 10) rfl)
  have xInvalidOrdermr : PySem.W.mroIn K (He.ga K "InvalidOrder") (.type "object") = some true := of_decide_eq_true (all_at q3 (i := 11) rfl)
  obtain ⟨cd_InvalidOrder, xInvalidOrdercs⟩ := some_at (all_at q3 (i := 12) rfl)
  have xInvalidNumberg : PySem.W.nsIn K mainGlobals "InvalidNumber" = some (some (.ref (He.ga K "InvalidNumber"))) := He.eqO_ok (all_at q3 (i := 13) rfl)
  have xInvalidNumberxi : PySem.W.excIn K (He.ga K "InvalidNumber") [.type "ValueError", .type "Exception", .type "BaseException", .type "object"] "ValueError.__new__" = true := (all_at q3 (i := 14) rfl)
  have xInvalidNumberk : PySem.W.keepIn K (.ref (He.ga K "InvalidNumber")) = true := (all_at q3 (i := 15) rfl)
  have xInvalidNumberb : PySem.W.subIn K (.ref (He.ga K "InvalidNumber")) (.type "BaseException") = some true := of_decide_eq_true (all_at q3 (i := 16) rfl)
  have xInvalidNumbert : PySem.W.typeIn K (.ref (He.ga K "InvalidNumber")) = some (.type "type") := of_decide_eq_true (all_at q3 (i := 17) rfl)
  have xInvalidNumberga : PySem.W.findIn K (.ref (He.ga K "InvalidNumber")) "__getattribute__" = some (some (.builtin "BaseException.__getattribute__")) := He.eqO_ok (all_at q3 (i := 18) rfl)
  have xInvalidNumbergt : PySem.W.findIn K (.ref (He.ga K "InvalidNumber")) "__getattr__" = some none := He.eqO_ok (all_at q3 (i := 19) rfl)
  have xInvalidNumberd : PySem.W.hasDictIn K (He.ga K "InvalidNumber") = true := (all_at q3 (i := 20) rfl)
  have xInvalidNumbercl : PySem.W.findIn K (.ref (He.ga K "InvalidNumber")) "__class__" = some (some (.builtin "object.__class__")) := He.eqO_ok (all_at q3 (i := 21) rfl)
  have xInvalidNumbercn : PySem.W.specialIn K (.builtin "object.__class__") "__get__" = some (some (.builtin "getset_descriptor.__get__")) := He.eqO_ok (all_at q3 (i := 22) rfl)
  have xInvalidNumberct : PySem.W.takesIn K (.builtin "object.__class__") = some true := of_decide_eq_true (all_at q3 (i := 23) rfl)
  have xInvalidNumbermr : PySem.W.mroIn K (He.ga K "InvalidNumber") (.type "object") = some true := of_decide_eq_true (all_at q3 (i := 24) rfl)
  obtain ⟨cd_InvalidNumber, xInvalidNumbercs⟩ := some_at (all_at q3 (i := 25) rfl)
  have xInvalidProgramg : PySem.W.nsIn K mainGlobals "InvalidProgram" = some (some (.ref (He.ga K "InvalidProgram"))) := He.eqO_ok (all_at q3 (i := 26) rfl)
  have xInvalidProgramxi : PySem.W.excIn K (He.ga K "InvalidProgram") [.type "ValueError", .type "Exception", .type "BaseException", .type "object"] "ValueError.__new__" = true := (all_at q3 (i := 27) rfl)
  have xInvalidProgramk : PySem.W.keepIn K (.ref (He.ga K "InvalidProgram")) = true := (all_at q3 (i := 28) rfl)
  have xInvalidProgramb : PySem.W.subIn K (.ref (He.ga K "InvalidProgram")) (.type "BaseException") = some true := of_decide_eq_true (all_at q3 (i := 29) rfl)
  have xInvalidProgramt : PySem.W.typeIn K (.ref (He.ga K "InvalidProgram")) = some (.type "type") := of_decide_eq_true (all_at q4 (i := 0) rfl)
  have xInvalidProgramga : PySem.W.findIn K (.ref (He.ga K "InvalidProgram")) "__getattribute__" = some (some (.builtin "BaseException.__getattribute__")) := He.eqO_ok (all_at q4 (i := 1) rfl)
  have xInvalidProgramgt : PySem.W.findIn K (.ref (He.ga K "InvalidProgram")) "__getattr__" = some none := He.eqO_ok (all_at q4 (i := 2) rfl)
  have xInvalidProgramd : PySem.W.hasDictIn K (He.ga K "InvalidProgram") = true := (all_at q4 (i := 3) rfl)
  have xInvalidProgramcl : PySem.W.findIn K (.ref (He.ga K "InvalidProgram")) "__class__" = some (some (.builtin "object.__class__")) := He.eqO_ok (all_at q4 (i := 4) rfl)
  have xInvalidProgramcn : PySem.W.specialIn K (.builtin "object.__class__") "__get__" = some (some (.builtin "getset_descriptor.__get__")) := He.eqO_ok (all_at q4 (i := 5) rfl)
  have xInvalidProgramct : PySem.W.takesIn K (.builtin "object.__class__") = some true := of_decide_eq_true (all_at q4 (i := 6) rfl)
  have xInvalidProgrammr : PySem.W.mroIn K (He.ga K "InvalidProgram") (.type "object") = some true := of_decide_eq_true (all_at q4 (i := 7) rfl)
  obtain ⟨cd_InvalidProgram, xInvalidProgramcs⟩ := some_at (all_at q4 (i := 8) rfl)
  have uInvalidPoly_AngleError : PySem.W.subIn K (.ref (He.ga K "InvalidPoly")) (.ref (He.ga K "AngleError")) = some true := of_decide_eq_true (all_at q4 (i := 9) rfl)
  have uInvalidName_AngleError : PySem.W.subIn K (.ref (He.ga K "InvalidName")) (.ref (He.ga K "AngleError")) = some true := of_decide_eq_true (all_at q4 (i := 10) rfl)
  have uInvalidPoly_TValueError : PySem.W.subIn K (.ref (He.ga K "InvalidPoly")) (.type "ValueError") = some true := of_decide_eq_true (all_at q4 (i := 11) rfl)
  have uInvalidName_TValueError : PySem.W.subIn K (.ref (He.ga K "InvalidName")) (.type "ValueError") = some true := of_decide_eq_true (all_at q4 (i := 12) rfl)
  have uInvalidPoly_InvalidName : PySem.W.subIn K (.ref (He.ga K "InvalidPoly")) (.ref (He.ga K "InvalidName")) = some false := of_decide_eq_true (all_at q4 (i := 13) rfl)
  have uInvalidPoly_InvalidNamen : (Value.ref (He.ga K "InvalidPoly") == Value.ref (He.ga K "InvalidName")) = false := of_decide_eq_true (all_at q4 (i := 14) rfl)
  have uInvalidPoly_InvalidOrders : PySem.W.subIn K (.ref (He.ga K "InvalidPoly")) (.ref (He.ga K "InvalidOrders")) = some false := of_decide_eq_true (all_at q4 (i := 15) rfl)
  have uInvalidPoly_InvalidOrdersn : (Value.ref (He.ga K "InvalidPoly") == Value.ref (He.ga K "InvalidOrders")) = false := of_decide_eq_true (all_at q4 (i := 16) rfl)
  have uInvalidPoly_NoProgram : PySem.W.subIn K (.ref (He.ga K "InvalidPoly")) (.ref (He.ga K "NoProgram")) = some false := of_decide_eq_true (all_at q4 (i := 17) rfl)
  have uInvalidPoly_NoProgramn : (Value.ref (He.ga K "InvalidPoly") == Value.ref (He.ga K "NoProgram")) = false := of_decide_eq_true (all_at q4 (i := 18) rfl)
  have uInvalidPoly_InvalidOrder : PySem.W.subIn K (.ref (He.ga K "InvalidPoly")) (.ref (He.ga K "InvalidOrder")) = some false := of_decide_eq_true (all_at q4 (i := 19) rfl)
  have uInvalidPoly_InvalidOrdern : (Value.ref (He.ga K "InvalidPoly") == Value.ref (He.ga K "InvalidOrder")) = false := of_decide_eq_true (all_at q4 (i := 20) rfl)
  have uInvalidPoly_InvalidNumber : PySem.W.subIn K (.ref (He.ga K "InvalidPoly")) (.ref (He.ga K "InvalidNumber")) = some false := of_decide_eq_true (all_at q4 (i := 21) rfl)
  have uInvalidPoly_InvalidNumbern : (Value.ref (He.ga K "InvalidPoly") == Value.ref (He.ga K "InvalidNumber")) = false := of_decide_eq_true (all_at q4 (i := 22) rfl)
  have uInvalidPoly_InvalidProgram : PySem.W.subIn K (.ref (He.ga K "InvalidPoly")) (.ref (He.ga K "InvalidProgram")) = some false := of_decide_eq_true (all_at q4 (i := 23) rfl)
  have uInvalidPoly_InvalidProgramn : (Value.ref (He.ga K "InvalidPoly") == Value.ref (He.ga K "InvalidProgram")) = false := of_decide_eq_true (all_at q4 (i := 24) rfl)
  have uInvalidName_InvalidPoly : PySem.W.subIn K (.ref (He.ga K "InvalidName")) (.ref (He.ga K "InvalidPoly")) = some false := of_decide_eq_true (all_at q4 (i := 25) rfl)
  have uInvalidName_InvalidPolyn : (Value.ref (He.ga K "InvalidName") == Value.ref (He.ga K "InvalidPoly")) = false := of_decide_eq_true (all_at q4 (i := 26) rfl)
  have uInvalidName_InvalidOrders : PySem.W.subIn K (.ref (He.ga K "InvalidName")) (.ref (He.ga K "InvalidOrders")) = some false := of_decide_eq_true (all_at q4 (i := 27) rfl)
  have uInvalidName_InvalidOrdersn : (Value.ref (He.ga K "InvalidName") == Value.ref (He.ga K "InvalidOrders")) = false := of_decide_eq_true (all_at q4 (i := 28) rfl)
  have uInvalidName_NoProgram : PySem.W.subIn K (.ref (He.ga K "InvalidName")) (.ref (He.ga K "NoProgram")) = some false := of_decide_eq_true (all_at q4 (i := 29) rfl)
  have uInvalidName_NoProgramn : (Value.ref (He.ga K "InvalidName") == Value.ref (He.ga K "NoProgram")) = false := of_decide_eq_true (all_at q5 (i := 0) rfl)
  have uInvalidName_InvalidOrder : PySem.W.subIn K (.ref (He.ga K "InvalidName")) (.ref (He.ga K "InvalidOrder")) = some false := of_decide_eq_true (all_at q5 (i := 1) rfl)
  have uInvalidName_InvalidOrdern : (Value.ref (He.ga K "InvalidName") == Value.ref (He.ga K "InvalidOrder")) = false := of_decide_eq_true (all_at q5 (i := 2) rfl)
  have uInvalidName_InvalidNumber : PySem.W.subIn K (.ref (He.ga K "InvalidName")) (.ref (He.ga K "InvalidNumber")) = some false := of_decide_eq_true (all_at q5 (i := 3) rfl)
  have uInvalidName_InvalidNumbern : (Value.ref (He.ga K "InvalidName") == Value.ref (He.ga K "InvalidNumber")) = false := of_decide_eq_true (all_at q5 (i := 4) rfl)
  have uInvalidName_InvalidProgram : PySem.W.subIn K (.ref (He.ga K "InvalidName")) (.ref (He.ga K "InvalidProgram")) = some false := of_decide_eq_true (all_at q5 (i := 5) rfl)
  have uInvalidName_InvalidProgramn : (Value.ref (He.ga K "InvalidName") == Value.ref (He.ga K "InvalidProgram")) = false := of_decide_eq_true (all_at q5 (i := 6) rfl)
  have uInvalidName_Tstr : PySem.W.subIn K (.ref (He.ga K "InvalidName")) (.type "str") = some false := of_decide_eq_true (all_at q5 (i := 7) rfl)
  have uIP : PySem.W.subIn K (.ref (He.ga K "InvalidPoly")) (.ref (He.ga K "Poly")) = some false := of_decide_eq_true (all_at q5 (i := 8) rfl)
  have uIPn : (Value.ref (He.ga K "InvalidPoly") == Value.ref (He.ga K "Poly")) = false := of_decide_eq_true (all_at q5 (i := 9) rfl)
  have a1 : PySem.W.nsIn K mainGlobals "_law_bag_of" = some (some (.ref (He.ga K "_law_bag_of"))) := He.eqO_ok (all_at q5 (i := 10) rfl)
  have k1 : PySem.W.keepIn K (.ref (He.ga K "_law_bag_of")) = true := (all_at q5 (i := 12) rfl)
  have E1 : ∃ fd : FuncData, Fun K "_law_bag_of" "_law_bag_of" s_l_bag_of (He.ga K "_law_bag_of") fd := fun_at (list_at p0 (i := 0) rfl rfl) (all_at q5 (i := 11) rfl) k1
  have a2 : PySem.W.nsIn K mainGlobals "_law_pick" = some (some (.ref (He.ga K "_law_pick"))) := He.eqO_ok (all_at q5 (i := 13) rfl)
  have k2 : PySem.W.keepIn K (.ref (He.ga K "_law_pick")) = true := (all_at q5 (i := 15) rfl)
  have E2 : ∃ fd : FuncData, Fun K "_law_pick" "_law_pick" s_l_pick (He.ga K "_law_pick") fd := fun_at (list_at p0 (i := 1) rfl rfl) (all_at q5 (i := 14) rfl) k2
  have a3 : PySem.W.nsIn K mainGlobals "_law_drawable" = some (some (.ref (He.ga K "_law_drawable"))) := He.eqO_ok (all_at q5 (i := 16) rfl)
  have k3 : PySem.W.keepIn K (.ref (He.ga K "_law_drawable")) = true := (all_at q5 (i := 18) rfl)
  have E3 : ∃ fd : FuncData, Fun K "_law_drawable" "_law_drawable" s_l_drawable (He.ga K "_law_drawable") fd := fun_at (list_at p0 (i := 2) rfl rfl) (all_at q5 (i := 17) rfl) k3
  have a4 : PySem.W.nsIn K mainGlobals "is_integer" = some (some (.ref (He.ga K "is_integer"))) := He.eqO_ok (all_at q5 (i := 19) rfl)
  have k4 : PySem.W.keepIn K (.ref (He.ga K "is_integer")) = true := (all_at q5 (i := 21) rfl)
  have E4 : ∃ fd : FuncData, Fun K "is_integer" "is_integer" s_is_integer (He.ga K "is_integer") fd := fun_at (list_at p0 (i := 3) rfl rfl) (all_at q5 (i := 20) rfl) k4
  have a5 : PySem.W.nsIn K mainGlobals "is_term" = some (some (.ref (He.ga K "is_term"))) := He.eqO_ok (all_at q5 (i := 22) rfl)
  have k5 : PySem.W.keepIn K (.ref (He.ga K "is_term")) = true := (all_at q5 (i := 24) rfl)
  have E5 : ∃ fd : FuncData, Fun K "is_term" "is_term" s_is_term (He.ga K "is_term") fd := fun_at (list_at p0 (i := 4) rfl rfl) (all_at q5 (i := 23) rfl) k5
  have a6 : PySem.W.nsIn K mainGlobals "summed" = some (some (.ref (He.ga K "summed"))) := He.eqO_ok (all_at q5 (i := 25) rfl)
  have k6 : PySem.W.keepIn K (.ref (He.ga K "summed")) = true := (all_at q5 (i := 27) rfl)
  have E6 : ∃ fd : FuncData, Fun K "summed" "summed" s_summed (He.ga K "summed") fd := fun_at (list_at p0 (i := 5) rfl rfl) (all_at q5 (i := 26) rfl) k6
  have a7 : PySem.W.findIn K (.ref (He.ga K "Poly")) "__init__" = some (some (.ref (He.ma K (He.ga K "Poly") "__init__"))) := He.eqO_ok (all_at q5 (i := 28) rfl)
  have i7 : PySem.W.isFn K (.ref (He.ma K (He.ga K "Poly") "__init__")) = true := (all_at q5 (i := 29) rfl)
  have k7 : PySem.W.keepIn K (.ref (He.ma K (He.ga K "Poly") "__init__")) = true := (all_at q6 (i := 1) rfl)
  have E7 : ∃ fd : FuncData, Fun K "__init__" "Poly.__init__" s_Poly___init__ (He.ma K (He.ga K "Poly") "__init__") fd := fun_at (list_at p0 (i := 6) rfl rfl) (all_at q6 (i := 0) rfl) k7
  have a8 : PySem.W.nsIn K mainGlobals "_law_terms_of" = some (some (.ref (He.ga K "_law_terms_of"))) := He.eqO_ok (all_at q6 (i := 2) rfl)
  have k8 : PySem.W.keepIn K (.ref (He.ga K "_law_terms_of")) = true := (all_at q6 (i := 4) rfl)
  have E8 : ∃ fd : FuncData, Fun K "_law_terms_of" "_law_terms_of" s_l_terms_of (He.ga K "_law_terms_of") fd := fun_at (list_at p0 (i := 7) rfl rfl) (all_at q6 (i := 3) rfl) k8
  have a9 : PySem.W.nsIn K mainGlobals "check_poly" = some (some (.ref (He.ga K "check_poly"))) := He.eqO_ok (all_at q6 (i := 5) rfl)
  have k9 : PySem.W.keepIn K (.ref (He.ga K "check_poly")) = true := (all_at q6 (i := 7) rfl)
  have E9 : ∃ fd : FuncData, Fun K "check_poly" "check_poly" s_check_poly (He.ga K "check_poly") fd := fun_at (list_at p0 (i := 8) rfl rfl) (all_at q6 (i := 6) rfl) k9
  have a10 : PySem.W.nsIn K mainGlobals "as_poly" = some (some (.ref (He.ga K "as_poly"))) := He.eqO_ok (all_at q6 (i := 8) rfl)
  have k10 : PySem.W.keepIn K (.ref (He.ga K "as_poly")) = true := (all_at q6 (i := 10) rfl)
  have E10 : ∃ fd : FuncData, Fun K "as_poly" "as_poly" s_as_poly (He.ga K "as_poly") fd := fun_at (list_at p0 (i := 9) rfl rfl) (all_at q6 (i := 9) rfl) k10
  have a11 : PySem.W.findIn K (.ref (He.ga K "Poly")) "__add__" = some (some (.ref (He.ma K (He.ga K "Poly") "__add__"))) := He.eqO_ok (all_at q6 (i := 11) rfl)
  have i11 : PySem.W.isFn K (.ref (He.ma K (He.ga K "Poly") "__add__")) = true := (all_at q6 (i := 12) rfl)
  have k11 : PySem.W.keepIn K (.ref (He.ma K (He.ga K "Poly") "__add__")) = true := (all_at q6 (i := 14) rfl)
  have E11 : ∃ fd : FuncData, Fun K "__add__" "Poly.__add__" s_Poly___add__ (He.ma K (He.ga K "Poly") "__add__") fd := fun_at (list_at p0 (i := 10) rfl rfl) (all_at q6 (i := 13) rfl) k11
  have a12 : PySem.W.nsIn K mainGlobals "negative" = some (some (.ref (He.ga K "negative"))) := He.eqO_ok (all_at q6 (i := 15) rfl)
  have k12 : PySem.W.keepIn K (.ref (He.ga K "negative")) = true := (all_at q6 (i := 17) rfl)
  have E12 : ∃ fd : FuncData, Fun K "negative" "negative" s_negative (He.ga K "negative") fd := fun_at (list_at p0 (i := 11) rfl rfl) (all_at q6 (i := 16) rfl) k12
  have a13 : PySem.W.findIn K (.ref (He.ga K "Poly")) "__neg__" = some (some (.ref (He.ma K (He.ga K "Poly") "__neg__"))) := He.eqO_ok (all_at q6 (i := 18) rfl)
  have i13 : PySem.W.isFn K (.ref (He.ma K (He.ga K "Poly") "__neg__")) = true := (all_at q6 (i := 19) rfl)
  have k13 : PySem.W.keepIn K (.ref (He.ma K (He.ga K "Poly") "__neg__")) = true := (all_at q6 (i := 21) rfl)
  have E13 : ∃ fd : FuncData, Fun K "__neg__" "Poly.__neg__" s_Poly___neg__ (He.ma K (He.ga K "Poly") "__neg__") fd := fun_at (list_at p0 (i := 12) rfl rfl) (all_at q6 (i := 20) rfl) k13
  have a14 : PySem.W.findIn K (.ref (He.ga K "Poly")) "mirrored" = some (some (.ref (He.ma K (He.ga K "Poly") "mirrored"))) := He.eqO_ok (all_at q6 (i := 22) rfl)
  have i14 : PySem.W.isFn K (.ref (He.ma K (He.ga K "Poly") "mirrored")) = true := (all_at q6 (i := 23) rfl)
  have k14 : PySem.W.keepIn K (.ref (He.ma K (He.ga K "Poly") "mirrored")) = true := (all_at q6 (i := 25) rfl)
  have E14 : ∃ fd : FuncData, Fun K "mirrored" "Poly.mirrored" s_Poly_mirrored (He.ma K (He.ga K "Poly") "mirrored") fd := fun_at (list_at p0 (i := 13) rfl rfl) (all_at q6 (i := 24) rfl) k14
  have a15 : PySem.W.nsIn K mainGlobals "_law_made" = some (some (.ref (He.ga K "_law_made"))) := He.eqO_ok (all_at q6 (i := 26) rfl)
  have k15 : PySem.W.keepIn K (.ref (He.ga K "_law_made")) = true := (all_at q6 (i := 28) rfl)
  have E15 : ∃ fd : FuncData, Fun K "_law_made" "_law_made" s_l_made (He.ga K "_law_made") fd := fun_at (list_at p0 (i := 14) rfl rfl) (all_at q6 (i := 27) rfl) k15
  have a16 : PySem.W.nsIn K mainGlobals "is_name" = some (some (.ref (He.ga K "is_name"))) := He.eqO_ok (all_at q6 (i := 29) rfl)
  have k16 : PySem.W.keepIn K (.ref (He.ga K "is_name")) = true := (all_at q7 (i := 1) rfl)
  have E16 : ∃ fd : FuncData, Fun K "is_name" "is_name" s_is_name (He.ga K "is_name") fd := fun_at (list_at p0 (i := 15) rfl rfl) (all_at q7 (i := 0) rfl) k16
  have a17 : PySem.W.nsIn K mainGlobals "check_name" = some (some (.ref (He.ga K "check_name"))) := He.eqO_ok (all_at q7 (i := 2) rfl)
  have k17 : PySem.W.keepIn K (.ref (He.ga K "check_name")) = true := (all_at q7 (i := 4) rfl)
  have E17 : ∃ fd : FuncData, Fun K "check_name" "check_name" s_check_name (He.ga K "check_name") fd := fun_at (list_at p0 (i := 16) rfl rfl) (all_at q7 (i := 3) rfl) k17
  have a18 : PySem.W.findIn K (.ref (He.ga K "Poly")) "__iter__" = some (some (.ref (He.ma K (He.ga K "Poly") "__iter__"))) := He.eqO_ok (all_at q7 (i := 5) rfl)
  have i18 : PySem.W.isFn K (.ref (He.ma K (He.ga K "Poly") "__iter__")) = true := (all_at q7 (i := 6) rfl)
  have k18 : PySem.W.keepIn K (.ref (He.ma K (He.ga K "Poly") "__iter__")) = true := (all_at q7 (i := 8) rfl)
  have E18 : ∃ fd : FuncData, Fun K "__iter__" "Poly.__iter__" s_Poly___iter__ (He.ma K (He.ga K "Poly") "__iter__") fd := fun_at (list_at p0 (i := 17) rfl rfl) (all_at q7 (i := 7) rfl) k18
  have a19 : PySem.W.nsIn K mainGlobals "raw_drawing" = some (some (.ref (He.ga K "raw_drawing"))) := He.eqO_ok (all_at q7 (i := 9) rfl)
  have k19 : PySem.W.keepIn K (.ref (He.ga K "raw_drawing")) = true := (all_at q7 (i := 11) rfl)
  have E19 : ∃ fd : FuncData, Fun K "raw_drawing" "raw_drawing" s_raw_drawing (He.ga K "raw_drawing") fd := fun_at (list_at p0 (i := 18) rfl rfl) (all_at q7 (i := 10) rfl) k19
  have a20 : PySem.W.nsIn K mainGlobals "drawing" = some (some (.ref (He.ga K "drawing"))) := He.eqO_ok (all_at q7 (i := 12) rfl)
  obtain ⟨oc20, od20, sl20, kV20, dc20, pm20, an20, cd20, ct20, l20, c20⟩ := fnE_ok (dV := .none) (list_at p0 (i := 19) rfl rfl : fnE K (He.ga K "drawing") = (some ("drawing", "drawing", (defArgs s_drawing), .stmts (defBody s_drawing), (defScope s_drawing), mainGlobals, [], builtinsNs) : He.FnW)) (all_at q7 (i := 13) rfl)
  have k20 : PySem.W.keepIn K (.ref (He.ga K "drawing")) = true := (all_at q7 (i := 14) rfl)
  have a21 : PySem.W.nsIn K mainGlobals "_law_is_int" = some (some (.ref (He.ga K "_law_is_int"))) := He.eqO_ok (all_at q7 (i := 15) rfl)
  have k21 : PySem.W.keepIn K (.ref (He.ga K "_law_is_int")) = true := (all_at q7 (i := 17) rfl)
  have E21 : ∃ fd : FuncData, Fun K "_law_is_int" "_law_is_int" s_l_is_int (He.ga K "_law_is_int") fd := fun_at (list_at p0 (i := 20) rfl rfl) (all_at q7 (i := 16) rfl) k21
  have a22 : PySem.W.nsIn K mainGlobals "_law_is_piece" = some (some (.ref (He.ga K "_law_is_piece"))) := He.eqO_ok (all_at q7 (i := 18) rfl)
  have k22 : PySem.W.keepIn K (.ref (He.ga K "_law_is_piece")) = true := (all_at q7 (i := 20) rfl)
  have E22 : ∃ fd : FuncData, Fun K "_law_is_piece" "_law_is_piece" s_l_is_piece (He.ga K "_law_is_piece") fd := fun_at (list_at p0 (i := 21) rfl rfl) (all_at q7 (i := 19) rfl) k22
  have a23 : PySem.W.nsIn K mainGlobals "_law_walked" = some (some (.ref (He.ga K "_law_walked"))) := He.eqO_ok (all_at q7 (i := 21) rfl)
  have k23 : PySem.W.keepIn K (.ref (He.ga K "_law_walked")) = true := (all_at q7 (i := 23) rfl)
  have E23 : ∃ fd : FuncData, Fun K "_law_walked" "_law_walked" s_l_walked (He.ga K "_law_walked") fd := fun_at (list_at p0 (i := 22) rfl rfl) (all_at q7 (i := 22) rfl) k23
  have a24 : PySem.W.nsIn K mainGlobals "_law_same_piece" = some (some (.ref (He.ga K "_law_same_piece"))) := He.eqO_ok (all_at q7 (i := 24) rfl)
  have k24 : PySem.W.keepIn K (.ref (He.ga K "_law_same_piece")) = true := (all_at q7 (i := 26) rfl)
  have E24 : ∃ fd : FuncData, Fun K "_law_same_piece" "_law_same_piece" s_l_same_piece (He.ga K "_law_same_piece") fd := fun_at (list_at p0 (i := 23) rfl rfl) (all_at q7 (i := 25) rfl) k24
  have a25 : PySem.W.nsIn K mainGlobals "_law_drawn" = some (some (.ref (He.ga K "_law_drawn"))) := He.eqO_ok (all_at q7 (i := 27) rfl)
  have k25 : PySem.W.keepIn K (.ref (He.ga K "_law_drawn")) = true := (all_at q7 (i := 29) rfl)
  have E25 : ∃ fd : FuncData, Fun K "_law_drawn" "_law_drawn" s_l_drawn (He.ga K "_law_drawn") fd := fun_at (list_at p0 (i := 24) rfl rfl) (all_at q7 (i := 28) rfl) k25
  have a26 : PySem.W.nsIn K mainGlobals "_law_jar_of" = some (some (.ref (He.ga K "_law_jar_of"))) := He.eqO_ok (all_at q8 (i := 0) rfl)
  have k26 : PySem.W.keepIn K (.ref (He.ga K "_law_jar_of")) = true := (all_at q8 (i := 2) rfl)
  have E26 : ∃ fd : FuncData, Fun K "_law_jar_of" "_law_jar_of" s_l_jar_of (He.ga K "_law_jar_of") fd := fun_at (list_at p0 (i := 25) rfl rfl) (all_at q8 (i := 1) rfl) k26
  have a27 : PySem.W.nsIn K mainGlobals "_law_moved" = some (some (.ref (He.ga K "_law_moved"))) := He.eqO_ok (all_at q8 (i := 3) rfl)
  have k27 : PySem.W.keepIn K (.ref (He.ga K "_law_moved")) = true := (all_at q8 (i := 5) rfl)
  have E27 : ∃ fd : FuncData, Fun K "_law_moved" "_law_moved" s_l_moved (He.ga K "_law_moved") fd := fun_at (list_at p0 (i := 26) rfl rfl) (all_at q8 (i := 4) rfl) k27
  have a28 : PySem.W.nsIn K mainGlobals "_law_times" = some (some (.ref (He.ga K "_law_times"))) := He.eqO_ok (all_at q8 (i := 6) rfl)
  have k28 : PySem.W.keepIn K (.ref (He.ga K "_law_times")) = true := (all_at q8 (i := 8) rfl)
  have E28 : ∃ fd : FuncData, Fun K "_law_times" "_law_times" s_l_times (He.ga K "_law_times") fd := fun_at (list_at p0 (i := 27) rfl rfl) (all_at q8 (i := 7) rfl) k28
  have a29 : PySem.W.nsIn K mainGlobals "is_order" = some (some (.ref (He.ga K "is_order"))) := He.eqO_ok (all_at q8 (i := 9) rfl)
  have k29 : PySem.W.keepIn K (.ref (He.ga K "is_order")) = true := (all_at q8 (i := 11) rfl)
  have E29 : ∃ fd : FuncData, Fun K "is_order" "is_order" s_is_order (He.ga K "is_order") fd := fun_at (list_at p0 (i := 28) rfl rfl) (all_at q8 (i := 10) rfl) k29
  have a30 : PySem.W.nsIn K mainGlobals "check_order" = some (some (.ref (He.ga K "check_order"))) := He.eqO_ok (all_at q8 (i := 12) rfl)
  have k30 : PySem.W.keepIn K (.ref (He.ga K "check_order")) = true := (all_at q8 (i := 14) rfl)
  have E30 : ∃ fd : FuncData, Fun K "check_order" "check_order" s_check_order (He.ga K "check_order") fd := fun_at (list_at p0 (i := 29) rfl rfl) (all_at q8 (i := 13) rfl) k30
  have a31 : PySem.W.nsIn K mainGlobals "primes_of" = some (some (.ref (He.ga K "primes_of"))) := He.eqO_ok (all_at q8 (i := 15) rfl)
  have k31 : PySem.W.keepIn K (.ref (He.ga K "primes_of")) = true := (all_at q8 (i := 17) rfl)
  have E31 : ∃ fd : FuncData, Fun K "primes_of" "primes_of" s_primes_of (He.ga K "primes_of") fd := fun_at (list_at p1 (i := 0) rfl rfl) (all_at q8 (i := 16) rfl) k31
  have a32 : PySem.W.nsIn K mainGlobals "check_divisor" = some (some (.ref (He.ga K "check_divisor"))) := He.eqO_ok (all_at q8 (i := 18) rfl)
  have k32 : PySem.W.keepIn K (.ref (He.ga K "check_divisor")) = true := (all_at q8 (i := 20) rfl)
  have E32 : ∃ fd : FuncData, Fun K "check_divisor" "check_divisor" s_check_divisor (He.ga K "check_divisor") fd := fun_at (list_at p1 (i := 1) rfl rfl) (all_at q8 (i := 19) rfl) k32
  have a33 : PySem.W.findIn K (.ref (He.ga K "Poly")) "span" = some (some (.ref (He.ma K (He.ga K "Poly") "span"))) := He.eqO_ok (all_at q8 (i := 21) rfl)
  have gp33 : PySem.W.specialIn K (.ref (He.ma K (He.ga K "Poly") "span")) "__get__" = some (some (.builtin "property.__get__")) := He.eqO_ok (all_at q8 (i := 22) rfl)
  have tp33 : PySem.W.takesIn K (.ref (He.ma K (He.ga K "Poly") "span")) = some true := of_decide_eq_true (all_at q8 (i := 23) rfl)
  have i33 : PySem.W.recIn K (He.ma K (He.ga K "Poly") "span") "property" = some (.ref (prF K (He.ma K (He.ga K "Poly") "span")) :: (prR K (He.ma K (He.ga K "Poly") "span"))) := prC_ok (all_at q8 (i := 24) rfl)
  have k33 : PySem.W.keepIn K (.ref (prF K (He.ma K (He.ga K "Poly") "span"))) = true := (all_at q8 (i := 26) rfl)
  have E33 : ∃ fd : FuncData, Fun K "span" "Poly.span" s_Poly_span (prF K (He.ma K (He.ga K "Poly") "span")) fd := fun_at (list_at p1 (i := 2) rfl rfl) (all_at q8 (i := 25) rfl) k33
  have a34 : PySem.W.nsIn K mainGlobals "division" = some (some (.ref (He.ga K "division"))) := He.eqO_ok (all_at q8 (i := 27) rfl)
  have k34 : PySem.W.keepIn K (.ref (He.ga K "division")) = true := (all_at q8 (i := 29) rfl)
  have E34 : ∃ fd : FuncData, Fun K "division" "division" s_division (He.ga K "division") fd := fun_at (list_at p1 (i := 3) rfl rfl) (all_at q8 (i := 28) rfl) k34
  have a35 : PySem.W.findIn K (.ref (He.ga K "Poly")) "__floordiv__" = some (some (.ref (He.ma K (He.ga K "Poly") "__floordiv__"))) := He.eqO_ok (all_at q9 (i := 0) rfl)
  have i35 : PySem.W.isFn K (.ref (He.ma K (He.ga K "Poly") "__floordiv__")) = true := (all_at q9 (i := 1) rfl)
  have k35 : PySem.W.keepIn K (.ref (He.ma K (He.ga K "Poly") "__floordiv__")) = true := (all_at q9 (i := 3) rfl)
  have E35 : ∃ fd : FuncData, Fun K "__floordiv__" "Poly.__floordiv__" s_Poly___floordiv__ (He.ma K (He.ga K "Poly") "__floordiv__") fd := fun_at (list_at p1 (i := 4) rfl rfl) (all_at q9 (i := 2) rfl) k35
  have a36 : PySem.W.nsIn K mainGlobals "raw_ring" = some (some (.ref (He.ga K "raw_ring"))) := He.eqO_ok (all_at q9 (i := 4) rfl)
  have k36 : PySem.W.keepIn K (.ref (He.ga K "raw_ring")) = true := (all_at q9 (i := 6) rfl)
  have E36 : ∃ fd : FuncData, Fun K "raw_ring" "raw_ring" s_raw_ring (He.ga K "raw_ring") fd := fun_at (list_at p1 (i := 5) rfl rfl) (all_at q9 (i := 5) rfl) k36
  have a37 : PySem.W.nsIn K mainGlobals "ring" = some (some (.ref (He.ga K "ring"))) := He.eqO_ok (all_at q9 (i := 7) rfl)
  have k37 : PySem.W.keepIn K (.ref (He.ga K "ring")) = true := (all_at q9 (i := 9) rfl)
  have E37 : ∃ fd : FuncData, Fun K "ring" "ring" s_ring (He.ga K "ring") fd := fun_at (list_at p1 (i := 6) rfl rfl) (all_at q9 (i := 8) rfl) k37
  have a38 : PySem.W.nsIn K mainGlobals "_law_primes" = some (some (.ref (He.ga K "_law_primes"))) := He.eqO_ok (all_at q9 (i := 10) rfl)
  have k38 : PySem.W.keepIn K (.ref (He.ga K "_law_primes")) = true := (all_at q9 (i := 12) rfl)
  have E38 : ∃ fd : FuncData, Fun K "_law_primes" "_law_primes" s_l_primes (He.ga K "_law_primes") fd := fun_at (list_at p1 (i := 7) rfl rfl) (all_at q9 (i := 11) rfl) k38
  have a39 : PySem.W.nsIn K mainGlobals "_law_totient" = some (some (.ref (He.ga K "_law_totient"))) := He.eqO_ok (all_at q9 (i := 13) rfl)
  have k39 : PySem.W.keepIn K (.ref (He.ga K "_law_totient")) = true := (all_at q9 (i := 15) rfl)
  have E39 : ∃ fd : FuncData, Fun K "_law_totient" "_law_totient" s_l_totient (He.ga K "_law_totient") fd := fun_at (list_at p1 (i := 8) rfl rfl) (all_at q9 (i := 14) rfl) k39
  have a40 : PySem.W.nsIn K mainGlobals "_law_ring_row" = some (some (.ref (He.ga K "_law_ring_row"))) := He.eqO_ok (all_at q9 (i := 16) rfl)
  have k40 : PySem.W.keepIn K (.ref (He.ga K "_law_ring_row")) = true := (all_at q9 (i := 18) rfl)
  have E40 : ∃ fd : FuncData, Fun K "_law_ring_row" "_law_ring_row" s_l_ring_row (He.ga K "_law_ring_row") fd := fun_at (list_at p1 (i := 9) rfl rfl) (all_at q9 (i := 17) rfl) k40
  have a41 : PySem.W.nsIn K mainGlobals "_law_jar_row" = some (some (.ref (He.ga K "_law_jar_row"))) := He.eqO_ok (all_at q9 (i := 19) rfl)
  have k41 : PySem.W.keepIn K (.ref (He.ga K "_law_jar_row")) = true := (all_at q9 (i := 21) rfl)
  have E41 : ∃ fd : FuncData, Fun K "_law_jar_row" "_law_jar_row" s_l_jar_row (He.ga K "_law_jar_row") fd := fun_at (list_at p1 (i := 10) rfl rfl) (all_at q9 (i := 20) rfl) k41
  have a42 : PySem.W.nsIn K mainGlobals "_law_ring_jar" = some (some (.ref (He.ga K "_law_ring_jar"))) := He.eqO_ok (all_at q9 (i := 22) rfl)
  have k42 : PySem.W.keepIn K (.ref (He.ga K "_law_ring_jar")) = true := (all_at q9 (i := 24) rfl)
  have E42 : ∃ fd : FuncData, Fun K "_law_ring_jar" "_law_ring_jar" s_l_ring_jar (He.ga K "_law_ring_jar") fd := fun_at (list_at p1 (i := 11) rfl rfl) (all_at q9 (i := 23) rfl) k42
  have a43 : PySem.W.nsIn K mainGlobals "check_number" = some (some (.ref (He.ga K "check_number"))) := He.eqO_ok (all_at q9 (i := 25) rfl)
  have k43 : PySem.W.keepIn K (.ref (He.ga K "check_number")) = true := (all_at q9 (i := 27) rfl)
  have E43 : ∃ fd : FuncData, Fun K "check_number" "check_number" s_check_number (He.ga K "check_number") fd := fun_at (list_at p1 (i := 12) rfl rfl) (all_at q9 (i := 26) rfl) k43
  have a44 : PySem.W.findIn K (.ref (He.ga K "Poly")) "__lshift__" = some (some (.ref (He.ma K (He.ga K "Poly") "__lshift__"))) := He.eqO_ok (all_at q9 (i := 28) rfl)
  have i44 : PySem.W.isFn K (.ref (He.ma K (He.ga K "Poly") "__lshift__")) = true := (all_at q9 (i := 29) rfl)
  have k44 : PySem.W.keepIn K (.ref (He.ma K (He.ga K "Poly") "__lshift__")) = true := (all_at q10 (i := 1) rfl)
  have E44 : ∃ fd : FuncData, Fun K "__lshift__" "Poly.__lshift__" s_Poly___lshift__ (He.ma K (He.ga K "Poly") "__lshift__") fd := fun_at (list_at p1 (i := 13) rfl rfl) (all_at q10 (i := 0) rfl) k44
  have a45 : PySem.W.nsIn K mainGlobals "product" = some (some (.ref (He.ga K "product"))) := He.eqO_ok (all_at q10 (i := 2) rfl)
  have k45 : PySem.W.keepIn K (.ref (He.ga K "product")) = true := (all_at q10 (i := 4) rfl)
  have E45 : ∃ fd : FuncData, Fun K "product" "product" s_product (He.ga K "product") fd := fun_at (list_at p1 (i := 14) rfl rfl) (all_at q10 (i := 3) rfl) k45
  have a46 : PySem.W.findIn K (.ref (He.ga K "Poly")) "__mul__" = some (some (.ref (He.ma K (He.ga K "Poly") "__mul__"))) := He.eqO_ok (all_at q10 (i := 5) rfl)
  have i46 : PySem.W.isFn K (.ref (He.ma K (He.ga K "Poly") "__mul__")) = true := (all_at q10 (i := 6) rfl)
  have k46 : PySem.W.keepIn K (.ref (He.ma K (He.ga K "Poly") "__mul__")) = true := (all_at q10 (i := 8) rfl)
  have E46 : ∃ fd : FuncData, Fun K "__mul__" "Poly.__mul__" s_Poly___mul__ (He.ma K (He.ga K "Poly") "__mul__") fd := fun_at (list_at p1 (i := 15) rfl rfl) (all_at q10 (i := 7) rfl) k46
  have a47 : PySem.W.nsIn K mainGlobals "_law_others" = some (some (.ref (He.ga K "_law_others"))) := He.eqO_ok (all_at q10 (i := 9) rfl)
  have k47 : PySem.W.keepIn K (.ref (He.ga K "_law_others")) = true := (all_at q10 (i := 11) rfl)
  have E47 : ∃ fd : FuncData, Fun K "_law_others" "_law_others" s_l_others (He.ga K "_law_others") fd := fun_at (list_at p1 (i := 16) rfl rfl) (all_at q10 (i := 10) rfl) k47
  have a48 : PySem.W.nsIn K mainGlobals "_law_odd" = some (some (.ref (He.ga K "_law_odd"))) := He.eqO_ok (all_at q10 (i := 12) rfl)
  have k48 : PySem.W.keepIn K (.ref (He.ga K "_law_odd")) = true := (all_at q10 (i := 14) rfl)
  have E48 : ∃ fd : FuncData, Fun K "_law_odd" "_law_odd" s_l_odd (He.ga K "_law_odd") fd := fun_at (list_at p1 (i := 17) rfl rfl) (all_at q10 (i := 13) rfl) k48
  have a49 : PySem.W.nsIn K mainGlobals "_law_builds_codes" = some (some (.ref (He.ga K "_law_builds_codes"))) := He.eqO_ok (all_at q10 (i := 15) rfl)
  have k49 : PySem.W.keepIn K (.ref (He.ga K "_law_builds_codes")) = true := (all_at q10 (i := 17) rfl)
  have E49 : ∃ fd : FuncData, Fun K "_law_builds_codes" "_law_builds_codes" s_l_builds_codes (He.ga K "_law_builds_codes") fd := fun_at (list_at p1 (i := 18) rfl rfl) (all_at q10 (i := 16) rfl) k49
  have a50 : PySem.W.nsIn K mainGlobals "_law_asked" = some (some (.ref (He.ga K "_law_asked"))) := He.eqO_ok (all_at q10 (i := 18) rfl)
  have k50 : PySem.W.keepIn K (.ref (He.ga K "_law_asked")) = true := (all_at q10 (i := 20) rfl)
  have E50 : ∃ fd : FuncData, Fun K "_law_asked" "_law_asked" s_l_asked (He.ga K "_law_asked") fd := fun_at (list_at p1 (i := 19) rfl rfl) (all_at q10 (i := 19) rfl) k50
  have a51 : PySem.W.findIn K (.ref (He.ga K "Poly")) "terms" = some (some (.ref (He.ma K (He.ga K "Poly") "terms"))) := He.eqO_ok (all_at q10 (i := 21) rfl)
  have gp51 : PySem.W.specialIn K (.ref (He.ma K (He.ga K "Poly") "terms")) "__get__" = some (some (.builtin "property.__get__")) := He.eqO_ok (all_at q10 (i := 22) rfl)
  have tp51 : PySem.W.takesIn K (.ref (He.ma K (He.ga K "Poly") "terms")) = some true := of_decide_eq_true (all_at q10 (i := 23) rfl)
  have i51 : PySem.W.recIn K (He.ma K (He.ga K "Poly") "terms") "property" = some (.ref (prF K (He.ma K (He.ga K "Poly") "terms")) :: (prR K (He.ma K (He.ga K "Poly") "terms"))) := prC_ok (all_at q10 (i := 24) rfl)
  have k51 : PySem.W.keepIn K (.ref (prF K (He.ma K (He.ga K "Poly") "terms"))) = true := (all_at q10 (i := 26) rfl)
  have E51 : ∃ fd : FuncData, Fun K "terms" "Poly.terms" s_Poly_terms (prF K (He.ma K (He.ga K "Poly") "terms")) fd := fun_at (list_at p1 (i := 20) rfl rfl) (all_at q10 (i := 25) rfl) k51
  have a52 : PySem.W.findIn K (.ref (He.ga K "Poly")) "__len__" = some (some (.ref (He.ma K (He.ga K "Poly") "__len__"))) := He.eqO_ok (all_at q10 (i := 27) rfl)
  have i52 : PySem.W.isFn K (.ref (He.ma K (He.ga K "Poly") "__len__")) = true := (all_at q10 (i := 28) rfl)
  have k52 : PySem.W.keepIn K (.ref (He.ma K (He.ga K "Poly") "__len__")) = true := (all_at q11 (i := 0) rfl)
  have E52 : ∃ fd : FuncData, Fun K "__len__" "Poly.__len__" s_Poly___len__ (He.ma K (He.ga K "Poly") "__len__") fd := fun_at (list_at p1 (i := 21) rfl rfl) (all_at q10 (i := 29) rfl) k52
  have a53 : PySem.W.nsIn K mainGlobals "_law_is_poly" = some (some (.ref (He.ga K "_law_is_poly"))) := He.eqO_ok (all_at q11 (i := 1) rfl)
  have k53 : PySem.W.keepIn K (.ref (He.ga K "_law_is_poly")) = true := (all_at q11 (i := 3) rfl)
  have E53 : ∃ fd : FuncData, Fun K "_law_is_poly" "_law_is_poly" s_l_is_poly (He.ga K "_law_is_poly") fd := fun_at (list_at p1 (i := 22) rfl rfl) (all_at q11 (i := 2) rfl) k53
  have a54 : PySem.W.nsIn K mainGlobals "law" = some (some (.ref (He.ga K "law"))) := He.eqO_ok (all_at q11 (i := 4) rfl)
  obtain ⟨oc54, od54, sl54, kV54, dc54, pm54, an54, cd54, ct54, l54, c54⟩ := fnE_ok (dV := .none) (list_at p1 (i := 23) rfl rfl : fnE K (He.ga K "law") = (some ("law", "law", (defArgs s_law), .stmts (defBody s_law), (defScope s_law), mainGlobals, [], builtinsNs) : He.FnW)) (all_at q11 (i := 5) rfl)
  have k54 : PySem.W.keepIn K (.ref (He.ga K "law")) = true := (all_at q11 (i := 6) rfl)
  have z_ValueError : PySem.W.nsIn K mainGlobals "ValueError" = some none := He.eqO_ok (all_at q11 (i := 7) rfl)
  have z_abs : PySem.W.nsIn K mainGlobals "abs" = some none := He.eqO_ok (all_at q11 (i := 8) rfl)
  have z_all : PySem.W.nsIn K mainGlobals "all" = some none := He.eqO_ok (all_at q11 (i := 9) rfl)
  have z_any : PySem.W.nsIn K mainGlobals "any" = some none := He.eqO_ok (all_at q11 (i := 10) rfl)
  have z_bool : PySem.W.nsIn K mainGlobals "bool" = some none := He.eqO_ok (all_at q11 (i := 11) rfl)
  have z_int : PySem.W.nsIn K mainGlobals "int" = some none := He.eqO_ok (all_at q11 (i := 12) rfl)
  have z_isinstance : PySem.W.nsIn K mainGlobals "isinstance" = some none := He.eqO_ok (all_at q11 (i := 13) rfl)
  have z_iter : PySem.W.nsIn K mainGlobals "iter" = some none := He.eqO_ok (all_at q11 (i := 14) rfl)
  have z_len : PySem.W.nsIn K mainGlobals "len" = some none := He.eqO_ok (all_at q11 (i := 15) rfl)
  have z_list : PySem.W.nsIn K mainGlobals "list" = some none := He.eqO_ok (all_at q11 (i := 16) rfl)
  have z_max : PySem.W.nsIn K mainGlobals "max" = some none := He.eqO_ok (all_at q11 (i := 17) rfl)
  have z_min : PySem.W.nsIn K mainGlobals "min" = some none := He.eqO_ok (all_at q11 (i := 18) rfl)
  have z_range : PySem.W.nsIn K mainGlobals "range" = some none := He.eqO_ok (all_at q11 (i := 19) rfl)
  have z_sorted : PySem.W.nsIn K mainGlobals "sorted" = some none := He.eqO_ok (all_at q11 (i := 20) rfl)
  have z_str : PySem.W.nsIn K mainGlobals "str" = some none := He.eqO_ok (all_at q11 (i := 21) rfl)
  have z_sum : PySem.W.nsIn K mainGlobals "sum" = some none := He.eqO_ok (all_at q11 (i := 22) rfl)
  have z_tuple : PySem.W.nsIn K mainGlobals "tuple" = some none := He.eqO_ok (all_at q11 (i := 23) rfl)
  have aGNlshift : PySem.W.findIn K (.ref (He.ga K "Poly")) (dunderR "lshift") = some none := He.eqO_ok (all_at q11 (i := 24) rfl)
  obtain ⟨foGNlshift, bGNlshift⟩ := some_at (all_at q11 (i := 25) rfl)
  obtain ⟨roGNlshift, cGNlshift⟩ := some_at (all_at q11 (i := 26) rfl)
  exact all_mk X G hfa aC pgP hdP poP saP mk_Poly kc_Poly nRP sfP icP moP caP cnP ctP cmP tyP s1P s2P s3P s4P s5P s6P t1P t2P t3P t4P xAngleErrorg xAngleErrorxi xAngleErrork xAngleErrorb xAngleErrort xAngleErrorga xAngleErrorgt xAngleErrord xAngleErrorcl xAngleErrorcn xAngleErrorct xAngleErrormr xAngleErrorcs xInvalidPolyg xInvalidPolyxi xInvalidPolyk xInvalidPolyb xInvalidPolyt xInvalidPolyga xInvalidPolygt xInvalidPolyd xInvalidPolycl xInvalidPolycn xInvalidPolyct xInvalidPolymr xInvalidPolycs xInvalidNameg xInvalidNamexi xInvalidNamek xInvalidNameb xInvalidNamet xInvalidNamega xInvalidNamegt xInvalidNamed xInvalidNamecl xInvalidNamecn xInvalidNamect xInvalidNamemr xInvalidNamecs xInvalidOrdersg xInvalidOrdersxi xInvalidOrdersk xInvalidOrdersb xInvalidOrderst xInvalidOrdersga xInvalidOrdersgt xInvalidOrdersd xInvalidOrderscl xInvalidOrderscn xInvalidOrdersct xInvalidOrdersmr xInvalidOrderscs xNoProgramg xNoProgramxi xNoProgramk xNoProgramb xNoProgramt xNoProgramga xNoProgramgt xNoProgramd xNoProgramcl xNoProgramcn xNoProgramct xNoProgrammr xNoProgramcs xInvalidOrderg xInvalidOrderxi xInvalidOrderk xInvalidOrderb xInvalidOrdert xInvalidOrderga xInvalidOrdergt xInvalidOrderd xInvalidOrdercl xInvalidOrdercn xInvalidOrderct xInvalidOrdermr xInvalidOrdercs xInvalidNumberg xInvalidNumberxi xInvalidNumberk xInvalidNumberb xInvalidNumbert xInvalidNumberga xInvalidNumbergt xInvalidNumberd xInvalidNumbercl xInvalidNumbercn xInvalidNumberct xInvalidNumbermr xInvalidNumbercs xInvalidProgramg xInvalidProgramxi xInvalidProgramk xInvalidProgramb xInvalidProgramt xInvalidProgramga xInvalidProgramgt xInvalidProgramd xInvalidProgramcl xInvalidProgramcn xInvalidProgramct xInvalidProgrammr xInvalidProgramcs uInvalidPoly_AngleError uInvalidName_AngleError uInvalidPoly_TValueError uInvalidName_TValueError uInvalidPoly_InvalidName uInvalidPoly_InvalidNamen uInvalidPoly_InvalidOrders uInvalidPoly_InvalidOrdersn uInvalidPoly_NoProgram uInvalidPoly_NoProgramn uInvalidPoly_InvalidOrder uInvalidPoly_InvalidOrdern uInvalidPoly_InvalidNumber uInvalidPoly_InvalidNumbern uInvalidPoly_InvalidProgram uInvalidPoly_InvalidProgramn uInvalidName_InvalidPoly uInvalidName_InvalidPolyn uInvalidName_InvalidOrders uInvalidName_InvalidOrdersn uInvalidName_NoProgram uInvalidName_NoProgramn uInvalidName_InvalidOrder uInvalidName_InvalidOrdern uInvalidName_InvalidNumber uInvalidName_InvalidNumbern uInvalidName_InvalidProgram uInvalidName_InvalidProgramn uInvalidName_Tstr uIP uIPn a1 k1 E1 a2 k2 E2 a3 k3 E3 a4 k4 E4 a5 k5 E5 a6 k6 E6 a7 i7 k7 E7 a8 k8 E8 a9 k9 E9 a10 k10 E10 a11 i11 k11 E11 a12 k12 E12 a13 i13 k13 E13 a14 i14 k14 E14 a15 k15 E15 a16 k16 E16 a17 k17 E17 a18 i18 k18 E18 a19 k19 E19 a20 l20 c20 k20 a21 k21 E21 a22 k22 E22 a23 k23 E23 a24 k24 E24 a25 k25 E25 a26 k26 E26 a27 k27 E27 a28 k28 E28 a29 k29 E29 a30 k30 E30 a31 k31 E31 a32 k32 E32 a33 gp33 tp33 i33 k33 E33 a34 k34 E34 a35 i35 k35 E35 a36 k36 E36 a37 k37 E37 a38 k38 E38 a39 k39 E39 a40 k40 E40 a41 k41 E41 a42 k42 E42 a43 k43 E43 a44 i44 k44 E44 a45 k45 E45 a46 i46 k46 E46 a47 k47 E47 a48 k48 E48 a49 k49 E49 a50 k50 E50 a51 gp51 tp51 i51 k51 E51 a52 i52 k52 E52 a53 k53 E53 a54 l54 c54 k54 z_ValueError z_abs z_all z_any z_bool z_int z_isinstance z_iter z_len z_list z_max z_min z_range z_sorted z_str z_sum z_tuple aGNlshift bGNlshift cGNlshift
end
end My
open PySem PySem.W PyProof.Rows
set_option maxRecDepth 100000 in
theorem PySem.Challenge.cw_everyangle_k75_drawings_holds : PySem.Challenge.rw_everyangle_k75_drawings.Holds := by
  exact My.hd_law fun w K h mg fa KX G hfa c => My.hd_facts (l := PySem.Challenge.rw_everyangle_k75_drawings) KX G hfa c
